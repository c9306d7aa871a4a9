import PyProof.Rows.All
import Wide.All
import OpenK.AllK
import Wide.FinOn
import HandS.ForList
import HandS.ForMost
import HandS.ForExc
import HandS.Wide
import HandS.Flow
import HandS.Rev
import HandS.Zip
import HandS.TupAny
import HandS.Call
import HandS.List
import HandS.Exc
import KE.KDictKeyed
import HandS.Deep
import HandS.Replace
import HandS.Text
import KE.KDictList
import PyProof.StrWalks
import HandS.Codes
import HandS.IsInst
import HandS.More
import PyProof.StrOps2
import PyProof.Rows.ReprOcc
import PyProof.ReprRoads
import PyProof.StrLawsRepr
import KE.DataMinMax
import HandS.RaiseMore
import HandS.SortRule
import PyProof.TupleOfSeq
import KE.GoesEnum
import KE.GoesZip
import PyProof.EnumMake
import HandS.Dict
import HandS.Style
import KE.KRevSl
import KE.KSortTupAny
import HandS.TupLen
import HandS.Conv
import HandS.Strs
import KE.KDictOf
import HandS.TryOnly
import PyProof.JoinWalk
import HandS.SetFor
import PyProof.Truth
import PyProof.Rows.SortShellAny
import PyProof.Rows.TupAssign
import KE.DataCmp
import HandS.ExcInit
import HandS.ExcIs
import HandS.ExcField
import HandS.ExcOwn
import HandS.WordsExc
import KE.KExcIs
import HandS.Words
import HandS.ExcValue
import KE.DatumIndex
import HandS.FStr
import KE.GoesComp
import KE.GoesRaise
import HandS.StrSplit
import PySem.Challenge.RW_mustmeet_k60_programs_as_texts
set_option Elab.async false
set_option linter.all false
set_option maxRecDepth 100000
set_option maxHeartbeats 4000000
namespace PuE
open PySem PySem.Spec PyProof.Rows L2
/-- a new tuple, as such or frozen as the object without a dict that it is -/
def nT (H : Hp) (xs : List V) (Q : VK) : Prop := (∀ p, H p = none → Q (.ref p) (upd H p (.tup xs))) ∨ (∀ p (ob : Obj), H p = none → ob.dict = none → ob.cls = .type "tuple" → Q (.ref p) (upd H p (.frz ob (.tup xs))))
section
variable {X : Cx} {pins : List (Addr × Obj)} {σ : L2.St} {H : Hp} {s : Shared} {Q : VK} {es : List Expr} {t : TA} {pos : Pos}
/-- the new object is laid -/
theorem laidT {xs : List V} {its : Array Value} {tk : Nat} (I : Inv X pins σ H s) (r : Vals xs its.toList) (hz : xs.length ≤ sizeLine) (q : nT H xs Q) :
    EP X pins σ Q (.ref s.heap.objs.size) { s with heap := s.heap.push { cls := .type "tuple", data := .seq its }, toks := tk } := by
  have hf : H s.heap.objs.size = none := I.hok.fresh (Nat.le_refl _)
  have hb : IsTup (s.heap.push { cls := .type "tuple", data := .seq its }) s.heap.objs.size its.toList.toArray := by
    have := IsTup.new s.heap its
    simpa using this
  rcases q with q | q
  · exact ⟨.ref s.heap.objs.size, upd H s.heap.objs.size (.tup xs), I.laid (t' := tk) (fun b u e => Heap.get?_push_of_some _ e) (Nat.le_refl _) ⟨hz, its.toList, r, hb⟩, rfl, q _ hf⟩
  · exact ⟨.ref s.heap.objs.size, upd H s.heap.objs.size (.frz { cls := .type "tuple", data := .seq its } (.tup xs)), I.laid (t' := tk) (fun b u e => Heap.get?_push_of_some _ e) (Nat.le_refl _) ⟨Heap.get?_push_size _ rfl, hz, its.toList, r, hb⟩, rfl, q _ _ hf rfl rfl⟩
def tTupB (t : TA) : TE := fun σ H Q => t σ H fun xs H1 => xs.length ≤ sizeLine ∧ nT H1 xs Q
theorem pe_tupB {x1} (h : PA X es t) : PE X (.Tuple es x1 pos) (tTupB t) := by
  refine ⟨fun pins s σ H Q I hq => ?_⟩
  refine wpAny_Tuple_spliced (thn (h.run pos pins s σ H _ I hq) fun us s1 ⟨xs, H1, I1, r, z, q⟩ => ⟨by rw [← r.length]; exact z, ?_⟩)
  exact laidT (tk := s1.toks) (its := us.toArray) I1 (by simpa using r) z q
def rCatTB (K : PySem.W.Frag) : R2 := fun x y H Q => ∃ a b xs ys, x = .ref a ∧ y = .ref b ∧ SqT K H a xs ∧ SqT K H b ys ∧ xs.length + ys.length ≤ sizeLine ∧
  (xs = [] → Q (.ref b) H) ∧ (xs ≠ [] → ys = [] → Q (.ref a) H) ∧ (xs ≠ [] → ys ≠ [] → nT H (xs ++ ys) Q)
theorem op_catB : OpR X (binaryOp .Add) (rCatTB X.K) := by
  intro pins s σ H x y v u Q I rx ry h
  obtain ⟨a, b, xs, ys, rfl, rfl, ha, hb, hz, q0, q1, q2⟩ := h
  cases rx
  cases ry
  obtain ⟨its, r1, p1, _⟩ := I.tuple ha
  obtain ⟨its2, r2, p2, _⟩ := I.tuple hb
  by_cases hx : xs = []
  · subst hx
    cases r1
    exact cat_tup0 p1 p2 ⟨.ref b, H, I, rfl, q0 rfl⟩
  · have l1 := r1.length
    have l2 := r2.length
    have hx' : its ≠ [] := fun z => by subst z; cases r1; exact hx rfl
    refine HT.cat_tup p1 p2 hx' (fun z => ?_) (fun z => ?_) (by omega)
    · subst z
      cases r2
      exact ⟨.ref a, H, I, rfl, q1 hx rfl⟩
    · have hy : ys ≠ [] := fun e => by subst e; cases r2; exact z rfl
      exact laidT (tk := s.toks) (its := (its ++ its2).toArray) I (by simpa using r1.append r2) (by rw [List.length_append]; exact hz) (q2 hx hy)
def rSlTB (K : PySem.W.Frag) : V → Option Int → Option Int → Hp → VK → Prop := fun x lo hi H Q => ∃ a xs, x = .ref a ∧ SqT K H a xs ∧
  (HT.sIx xs.length 0 lo = 0 ∧ HT.sIx xs.length xs.length hi = xs.length → Q (.ref a) H) ∧ (¬ (HT.sIx xs.length 0 lo = 0 ∧ HT.sIx xs.length xs.length hi = xs.length) → nT H (cutV xs lo hi) Q)
theorem sl_tupB : SlR X (rSlTB X.K) := by
  intro pins s σ H x v vl vu lo hi sl Q I rx hs pl pu h
  obtain ⟨a, xs, rfl, hx, q1, q2⟩ := h
  cases rx
  obtain ⟨its, r, ht, hz⟩ := I.tuple hx
  have hlen : its.toArray.size = xs.length := by rw [List.size_toArray]; exact r.length.symm
  refine ⟨"tuple", _, PyProof.Rows.slot_tuple_getitem.lookup, ht.typeIs, ?_⟩
  by_cases hw : HT.sIx xs.length 0 lo = 0 ∧ HT.sIx xs.length xs.length hi = xs.length
  · exact getItem_tuple_whole ht hs pl pu (by rw [hlen]; exact hw) ⟨.ref a, H, I, rfl, q1 hw⟩
  · refine HT.getItem_tuple_cut ht hs pl pu (by rw [hlen]; exact hw) ?_ (by rw [hlen]; exact hz)
    rw [hlen]
    exact laidT (tk := s.toks) (its := ((its.drop (HT.sIx xs.length 0 lo)).take (HT.sIx xs.length xs.length hi - HT.sIx xs.length 0 lo)).toArray) I (by unfold cutV; simpa using (r.drop (HT.sIx xs.length 0 lo)).take (HT.sIx xs.length xs.length hi - HT.sIx xs.length 0 lo)) (Nat.le_trans (cutV_length xs lo hi) hz) (q2 hw)
theorem call_tuple_ofB : CallR X (.type "tuple") (fun xs H Q => ∃ p ys, xs = [.ref p] ∧ ((SqL X.K H p ys ∧ nT H ys Q) ∨ (SqT X.K H p ys ∧ Q (.ref p) H))) := by
  intro pins s σ H xs us Q I r h
  obtain ⟨p, ys, rfl, h⟩ := h
  obtain ⟨u, rfl, rx⟩ := vals1 r
  cases rx
  rcases h with ⟨hq, q⟩ | ⟨hq, q⟩
  · obtain ⟨its, r', pl, hz⟩ := I.list hq
    have hlen := r'.length
    refine call_tuple_list pl.isList (fun h' kp => ?_) (by simp only [List.size_toArray] <;> omega)
    have I1 : Inv X pins σ H { s with heap := h' } := I.kept (t' := s.toks) kp
    exact laidT (tk := s.toks) (its := its.toArray) I1 (by simpa using r') hz q
  · obtain ⟨its, r', pl, hz⟩ := I.tuple hq
    exact call_tuple_same pl ⟨.ref p, H, I, rfl, q⟩
end
end PuE
set_option maxRecDepth 100000
set_option maxHeartbeats 4000000
namespace Pu
open PySem L2
/-- the classes by number, and the program's world -/
structure Cl where
  f : Nat → Addr
  P : Program
  w : World
instance : CoeFun Cl (fun _ => Nat → Addr) := ⟨Cl.f⟩
/-- data: what never changes any more, boxes of the law's draws, objects by number -/
inductive D where
  | non | bl (b : Bool) | int (i : Int) | str (s : List Nat) | tup (ds : List D) | lst (ds : List D) | scr (n : Nat) | box | ref (k : Nat) | cls (k : Nat) | exc (c : Nat) (ns : List Str) (ds : List D) | dct (ks : List (List Key)) (ds : List D) | dck (ks : List Key) (ds : List D) | dcn (ks : List D) (is : List Int)
/-- what a slot holds: nothing, data, a list or dict of its own -/
inductive C where
  | un | d (d : D) | own (ds : List D) | dK (kvs : List (Key × D)) | dT (kvs : List (List Key × D))
/-- what an expression comes to: data, a new list or dict, what the slot i holds -/
inductive R where
  | d (d : D) | own (ds : List D) | dK (kvs : List (Key × D)) | dT (kvs : List (List Key × D)) | nam (i : Nat)
/-- an object of the store -/
inductive SO where
  | lst (ds : List D) | dK (kvs : List (Key × D)) | dT (kvs : List (List Key × D)) | ins (c : Nat) (fs : List (Str × D)) | exc (c : Nat) (ds : List D)
structure En where
  sl : List C
  st : List SO
structure Ex where
  c : Nat
  ds : List D
/-- the sort of an address -/
inductive Kd where
  | frz | box | obj (k : Nat)
abbrev Ka := Addr → Option Kd
abbrev Sto := List SO
abbrev Sl := List (Option V)
def KL (K : PySem.W.Frag) (a : Addr) (xs : List V) : Prop :=
  ∃ (o : Obj) (its : Array Value) (n : Nat), K.lookup a = some o ∧ o.cls = .type "list" ∧ o.dict = none ∧ o.data = .seq its n ∧ its.size ≤ sizeLine ∧ Vals xs its.toList
/-- what does not change in a def: the written part, the heap and the sorts at its entry -/
structure Gm where
  K : PySem.W.Frag
  H0 : Hp
  k0 : Ka
  cls : Cl
  flds : Nat → List Str
  E : XK
  x : Ex → Sto → Prop
/-- a text that the model lays -/
def SOk (l : List Nat) : Prop := l.length ≤ sizeLine ∧ ∀ c ∈ l, c < 1114112
instance (l : List Nat) : Decidable (SOk l) := by unfold SOk; infer_instance
/-- a caught or made exception of the class at C, its dict (none | at d) -/
def exT (a C : Addr) (d : Option Addr) : HO := .ext fun h => ∃ (oe : Obj) (vs : Array Value), h.get? a = some oe ∧ Zc (.ref C) d oe ∧ oe.data = .fields vs
/-- an exception's dict -/
def ExD (κ : Ka) (H : Hp) (d : Option Addr) (ns : List Str) (vs : List V) : Prop := (d = none ∧ ns = []) ∨ ∃ dd, d = some dd ∧ κ dd = some .frz ∧ H dd = some (.xd (ns.zip vs).reverse)
mutual
/-- a key of any depth -/
def nkD : D → Option NestedKey
  | .int i => some (.num i)
  | .str s => some (.text ⟨s.toArray⟩)
  | .tup ds => (nkL ds).map .tup
  | _ => none
def nkL : List D → Option (List NestedKey)
  | [] => some []
  | d :: ds => (nkD d).bind fun k => (nkL ds).map fun ks => k :: ks
end
/-- a dict of nested keys and ints, its keys' tuples at as -/
def dcnO (cl : Cl) (a : Addr) (as : List Addr) (nks : List NestedKey) (is : List Int) : HO := .ext fun h =>
  (a == sysModules) = false ∧ ∃ (o : Obj) (es : Array DictEntry) (ep : Nat) (vs : List Value), h.get? a = some o ∧ o.ExactDict ∧ o.data = .dict es ep ∧ vs.length = is.length ∧ (∀ (j : Nat) (i : Int), is[j]? = some i → ∃ t, vs[j]? = some (.int i t)) ∧ es.toList = (nks.zip (as.zip vs)).map (fun p => entryOfKey (nestedKind cl.P cl.w) p) ∧ nks.Nodup
/-- a pair of ints; a row of such, not empty (such tuples are known to be plain) -/
def isPr : D → Bool
  | .tup [.int _, .int _] => true
  | _ => false
def ordL : List D → Bool
  | [] => false
  | d :: ds => isPr d && ds.all isPr
mutual
inductive Rep (K : PySem.W.Frag) (cl : Cl) (κ : Ka) (H : Hp) : V → D → Prop
  | non : Rep K cl κ H .non .non
  | bl (b : Bool) : Rep K cl κ H (.bl b) (.bl b)
  | int (i : Int) : Rep K cl κ H (.int i) (.int i)
  | str (l : List Nat) : SOk l → Rep K cl κ H (.str ⟨l.toArray⟩) (.str l)
  | lst {a : Addr} {vs : List V} {ds : List D} : κ a = some .frz → H a = some (.lst vs) → vs.length ≤ sizeLine → RepL K cl κ H vs ds → Rep K cl κ H (.ref a) (.lst ds)
  | tup {a : Addr} {vs : List V} {ds : List D} : ordL ds = false → κ a = some .frz → H a = some (.tup vs) → vs.length ≤ sizeLine → RepL K cl κ H vs ds → Rep K cl κ H (.ref a) (.tup ds)
  | tupF {a : Addr} {vs : List V} {ds : List D} {ob : Obj} : ordL ds = true → ob.dict = none → ob.cls = .type "tuple" → κ a = some .frz → H a = some (.frz ob (.tup vs)) → vs.length ≤ sizeLine → RepL K cl κ H vs ds → Rep K cl κ H (.ref a) (.tup ds)
  | scr {a : Addr} {ns : List Int} {n : Nat} : ((κ a = some .frz ∧ Rd H a (.lst (ns.map V.int))) ∨ KL K a (ns.map V.int)) → ns.length = n → n ≤ 63 → Rep K cl κ H (.ref a) (.scr n)
  | box {a : Addr} : κ a = some .box → Rep K cl κ H (.ref a) .box
  | ref {a : Addr} {k : Nat} : κ a = some (.obj k) → Rep K cl κ H (.ref a) (.ref k)
  | cls (k : Nat) : Rep K cl κ H (.ref (cl k)) (.cls k)
  | exc {a : Addr} {c : Nat} {ns : List Str} {vs : List V} {ds : List D} {d : Option Addr} : κ a = some .frz → H a = some (exT a (cl c) d) → ExD κ H d ns vs → RepL K cl κ H vs ds → Rep K cl κ H (.ref a) (.exc c ns ds)
  | dct {a : Addr} {ks : List (List Key)} {vs : List V} {ds : List D} : κ a = some .frz → H a = some (.dT (ks.zip vs)) → vs.length = ks.length → RepL K cl κ H vs ds → Rep K cl κ H (.ref a) (.dct ks ds)
  | dck {a : Addr} {ks : List Key} {vs : List V} {ds : List D} : κ a = some .frz → H a = some (.dK (ks.zip vs)) → vs.length = ks.length → RepL K cl κ H vs ds → Rep K cl κ H (.ref a) (.dck ks ds)
  | dcn {a : Addr} {as : List Addr} {ks : List D} {nks : List NestedKey} {is : List Int} : κ a = some .frz → H a = some (dcnO cl a as nks is) → nkL ks = some nks → as.length = ks.length → is.length = ks.length → (∀ k ∈ nks, k.depth ≤ 8) → RepL K cl κ H (as.map V.ref) ks → Rep K cl κ H (.ref a) (.dcn ks is)
inductive RepL (K : PySem.W.Frag) (cl : Cl) (κ : Ka) (H : Hp) : List V → List D → Prop
  | nil : RepL K cl κ H [] []
  | cons {v : V} {vs : List V} {d : D} {ds : List D} : Rep K cl κ H v d → RepL K cl κ H vs ds → RepL K cl κ H (v :: vs) (d :: ds)
end
/-- entries of a dict, attributes -/
inductive PR {α : Type} (K : PySem.W.Frag) (cl : Cl) (κ : Ka) (H : Hp) : List (α × V) → List (α × D) → Prop
  | nil : PR K cl κ H [] []
  | cons {a : α} {v : V} {vs : List (α × V)} {d : D} {ds : List (α × D)} : Rep K cl κ H v d → PR K cl κ H vs ds → PR K cl κ H ((a, v) :: vs) ((a, d) :: ds)
def Ext (κ : Ka) (H : Hp) (κ' : Ka) (H' : Hp) : Prop := (∀ a x, κ a = some x → κ' a = some x) ∧ ∀ a, κ a = some .frz → H' a = H a
theorem Ext.refl (κ : Ka) (H : Hp) : Ext κ H κ H := ⟨fun _ _ h => h, fun _ _ => rfl⟩
theorem Ext.trans {κ κ1 κ2 : Ka} {H H1 H2 : Hp} (a : Ext κ H κ1 H1) (b : Ext κ1 H1 κ2 H2) : Ext κ H κ2 H2 :=
  ⟨fun x y h => b.1 x y (a.1 x y h), fun x h => (b.2 x (a.1 x _ h)).trans (a.2 x h)⟩
section
variable {K : PySem.W.Frag} {cl : Cl} {κ κ' : Ka} {H H' : Hp}
mutual
theorem Rep.mono (e : Ext κ H κ' H') : ∀ {d : D} {v : V}, Rep K cl κ H v d → Rep K cl κ' H' v d
  | .non, _, h => by cases h; exact .non
  | .bl b, _, h => by cases h; exact .bl b
  | .int i, _, h => by cases h; exact .int i
  | .str l, _, h => by cases h with | str _ h => exact .str l h
  | .lst ds, _, h => by
    cases h with
    | lst h1 h2 h3 h4 => exact .lst (e.1 _ _ h1) ((e.2 _ h1).trans h2) h3 (RepL.mono e h4)
  | .tup ds, _, h => by
    cases h with
    | tup h0 h1 h2 h3 h4 => exact .tup h0 (e.1 _ _ h1) ((e.2 _ h1).trans h2) h3 (RepL.mono e h4)
    | tupF h0 h5 h6 h1 h2 h3 h4 => exact .tupF h0 h5 h6 (e.1 _ _ h1) ((e.2 _ h1).trans h2) h3 (RepL.mono e h4)
  | .scr n, _, h => by
    cases h with
    | scr h1 h2 h3 =>
      refine .scr ?_ h2 h3
      rcases h1 with ⟨h1, h2⟩ | h1
      · refine .inl ⟨e.1 _ _ h1, ?_⟩
        unfold Rd
        rw [e.2 _ h1]
        exact h2
      · exact .inr h1
  | .box, _, h => by cases h with | box h => exact .box (e.1 _ _ h)
  | .ref k, _, h => by cases h with | ref h => exact .ref (e.1 _ _ h)
  | .cls k, _, h => by cases h; exact .cls k
  | .exc c ns ds, _, h => by
    cases h with
    | exc h1 h2 h3 h4 =>
      refine .exc (e.1 _ _ h1) ((e.2 _ h1).trans h2) ?_ (RepL.mono e h4)
      rcases h3 with h3 | ⟨dd, h3, h5, h6⟩
      · exact .inl h3
      · exact .inr ⟨dd, h3, e.1 _ _ h5, (e.2 _ h5).trans h6⟩
  | .dct ks ds, _, h => by
    cases h with
    | dct h1 h2 h3 h4 => exact .dct (e.1 _ _ h1) ((e.2 _ h1).trans h2) h3 (RepL.mono e h4)
  | .dck ks ds, _, h => by
    cases h with
    | dck h1 h2 h3 h4 => exact .dck (e.1 _ _ h1) ((e.2 _ h1).trans h2) h3 (RepL.mono e h4)
  | .dcn ks is, _, h => by
    cases h with
    | dcn h1 h2 h3 h4 h5 h6 h7 => exact .dcn (e.1 _ _ h1) ((e.2 _ h1).trans h2) h3 h4 h5 h6 (RepL.mono e h7)
theorem RepL.mono (e : Ext κ H κ' H') : ∀ {ds : List D} {vs : List V}, RepL K cl κ H vs ds → RepL K cl κ' H' vs ds
  | [], _, h => by cases h; exact .nil
  | d :: ds, _, h => by cases h with | cons h1 h2 => exact .cons (Rep.mono e h1) (RepL.mono e h2)
end
theorem PR.mono {α : Type} (e : Ext κ H κ' H') : ∀ {ds : List (α × D)} {vs : List (α × V)}, PR K cl κ H vs ds → PR K cl κ' H' vs ds
  | [], _, h => by cases h; exact .nil
  | _ :: ds, _, h => by cases h with | cons h1 h2 => exact .cons (Rep.mono e h1) (PR.mono e h2)
theorem RepL.length : ∀ {ds : List D} {vs : List V}, RepL K cl κ H vs ds → vs.length = ds.length
  | [], _, h => by cases h; rfl
  | d :: ds, _, h => by cases h with | cons h1 h2 => simp [RepL.length h2]
theorem PR.length {α : Type} : ∀ {ds : List (α × D)} {vs : List (α × V)}, PR K cl κ H vs ds → vs.length = ds.length
  | [], _, h => by cases h; rfl
  | d :: ds, _, h => by cases h with | cons h1 h2 => simp [PR.length h2]
theorem RepL.append : ∀ {ds es : List D} {vs ws : List V}, RepL K cl κ H vs ds → RepL K cl κ H ws es → RepL K cl κ H (vs ++ ws) (ds ++ es)
  | [], _, _, _, h, g => by cases h; exact g
  | d :: ds, _, _, _, h, g => by cases h with | cons h1 h2 => exact .cons h1 (RepL.append h2 g)
theorem RepL.get : ∀ {ds : List D} {vs : List V} {i : Nat} {d : D}, RepL K cl κ H vs ds → ds[i]? = some d → ∃ v, vs[i]? = some v ∧ Rep K cl κ H v d
  | [], _, _, _, h, e => by simp at e
  | d :: ds, _, 0, _, h, e => by
    cases h with
    | cons h1 h2 => simp at e; subst e; exact ⟨_, rfl, h1⟩
  | d :: ds, _, i + 1, _, h, e => by
    cases h with
    | cons h1 h2 =>
      obtain ⟨v, e1, r⟩ := RepL.get (i := i) h2 (by simpa using e)
      exact ⟨v, by simpa using e1, r⟩
theorem RepL.set : ∀ {ds : List D} {vs : List V} {v : V} {d : D} (i : Nat), Rep K cl κ H v d → RepL K cl κ H vs ds → RepL K cl κ H (vs.set i v) (ds.set i d)
  | [], _, _, _, _, _, h => by cases h; exact .nil
  | _ :: _, _, _, _, 0, r, h => by cases h with | cons h1 h2 => exact .cons r h2
  | _ :: _, _, _, _, i + 1, r, h => by cases h with | cons h1 h2 => exact .cons h1 (RepL.set i r h2)
theorem RepL.take : ∀ {ds : List D} {vs : List V} (n : Nat), RepL K cl κ H vs ds → RepL K cl κ H (vs.take n) (ds.take n)
  | _, _, 0, _ => by simpa using .nil
  | [], _, n + 1, h => by cases h; exact .nil
  | _ :: _, _, n + 1, h => by cases h with | cons h1 h2 => exact .cons h1 (RepL.take n h2)
theorem RepL.drop : ∀ {ds : List D} {vs : List V} (n : Nat), RepL K cl κ H vs ds → RepL K cl κ H (vs.drop n) (ds.drop n)
  | _, _, 0, h => h
  | [], _, n + 1, h => by cases h; exact .nil
  | _ :: _, _, n + 1, h => by cases h with | cons h1 h2 => exact RepL.drop n h2
theorem RepL.eraseIdx : ∀ {ds : List D} {vs : List V} (n : Nat), RepL K cl κ H vs ds → RepL K cl κ H (vs.eraseIdx n) (ds.eraseIdx n)
  | [], _, _, h => by cases h; exact .nil
  | _ :: _, _, 0, h => by cases h with | cons h1 h2 => exact h2
  | _ :: _, _, n + 1, h => by cases h with | cons h1 h2 => exact .cons h1 (RepL.eraseIdx n h2)
theorem RepL.dropLast : ∀ {ds : List D} {vs : List V}, RepL K cl κ H vs ds → RepL K cl κ H vs.dropLast ds.dropLast
  | ds, vs, h => by
    rw [List.dropLast_eq_take, List.dropLast_eq_take, h.length]
    exact h.take _
theorem RepL.reverse : ∀ {ds : List D} {vs : List V}, RepL K cl κ H vs ds → RepL K cl κ H vs.reverse ds.reverse
  | [], _, h => by cases h; exact .nil
  | _ :: _, _, h => by
    cases h with
    | cons h1 h2 =>
      rw [List.reverse_cons, List.reverse_cons]
      exact (RepL.reverse h2).append (.cons h1 .nil)
end
/-- keys and values apart -/
theorem PR.split {α : Type} {K : PySem.W.Frag} {cl : Cl} {κ : Ka} {H : Hp} : ∀ {ds : List (α × D)} {vs : List (α × V)}, PR K cl κ H vs ds → vs = (ds.map (·.1)).zip (vs.map (·.2)) ∧ (vs.map (·.2)).length = (ds.map (·.1)).length ∧ RepL K cl κ H (vs.map (·.2)) (ds.map (·.2))
  | [], _, h => by cases h; exact ⟨rfl, rfl, .nil⟩
  | _ :: ds, _, h => by
    cases h with
    | cons h1 h2 =>
      obtain ⟨e1, e2, e3⟩ := PR.split h2
      refine ⟨?_, by simpa using e2, .cons h1 e3⟩
      rw [List.map_cons, List.map_cons, List.zip_cons_cons, ← e1]
theorem PR.zipKV {α : Type} {K : PySem.W.Frag} {cl : Cl} {κ : Ka} {H : Hp} : ∀ {ks : List α} {vs : List V} {ds : List D}, vs.length = ks.length → RepL K cl κ H vs ds → PR K cl κ H (ks.zip vs) (ks.zip ds)
  | [], vs, ds, _, h => by simp only [List.zip_nil_left]; exact .nil
  | k :: ks, [], ds, e, h => by simp at e
  | k :: ks, v :: vs, _, e, .cons h1 h2 => by
    rw [List.zip_cons_cons, List.zip_cons_cons]
    exact .cons h1 (PR.zipKV (by simpa using e) h2)
theorem zip_split {α β : Type} : ∀ l : List (α × β), (l.map (·.1)).zip (l.map (·.2)) = l
  | [] => rfl
  | a :: l => by rw [List.map_cons, List.map_cons, List.zip_cons_cons, zip_split l]
/-- what a fresh own thing at a slot or a result is -/
def OwnC (Γ : Gm) (κ : Ka) (H : Hp) (a : Addr) : C → Prop
  | .own ds => κ a = none ∧ Γ.H0 a = none ∧ ∃ vs, H a = some (.lst vs) ∧ vs.length ≤ sizeLine ∧ RepL Γ.K Γ.cls κ H vs ds
  | .dK kvs => κ a = none ∧ Γ.H0 a = none ∧ ∃ vs, H a = some (.dK vs) ∧ PR Γ.K Γ.cls κ H vs kvs
  | .dT kvs => κ a = none ∧ Γ.H0 a = none ∧ ∃ vs, H a = some (.dT vs) ∧ PR Γ.K Γ.cls κ H vs kvs
  | _ => False
def C.isOwn : C → Bool
  | .own _ => true
  | .dK _ => true
  | .dT _ => true
  | _ => false
def RelS (Γ : Gm) (κ : Ka) (H : Hp) (o : Option (Option V)) : C → Prop
  | .un => True
  | .d d => ∃ v, o = some (some v) ∧ Rep Γ.K Γ.cls κ H v d
  | c => ∃ a, o = some (some (.ref a)) ∧ OwnC Γ κ H a c
def RelC (Γ : Gm) (κ : Ka) (H : Hp) (v : V) : C → Prop
  | .un => False
  | .d d => Rep Γ.K Γ.cls κ H v d
  | c => ∃ a, v = .ref a ∧ OwnC Γ κ H a c
def ObjR (Γ : Gm) (κ : Ka) (H : Hp) (a : Addr) : SO → Prop
  | .lst ds => ∃ vs, H a = some (.lst vs) ∧ vs.length ≤ sizeLine ∧ RepL Γ.K Γ.cls κ H vs ds
  | .dK kvs => ∃ vs, H a = some (.dK vs) ∧ PR Γ.K Γ.cls κ H vs kvs
  | .dT kvs => ∃ vs, H a = some (.dT vs) ∧ PR Γ.K Γ.cls κ H vs kvs
  | .ins c fs => ∃ dx vs, H a = some (.ins (Γ.cls c) dx vs) ∧ PR Γ.K Γ.cls κ H vs fs
  | .exc _ _ => False
/-- the ghost's part of the invariant -/
structure Gh (Γ : Gm) (κ : Ka) (st : Sto) (H : Hp) : Prop where
  sub : ∀ a x, Γ.k0 a = some x → κ a = some x
  new : ∀ a x, κ a = some x → Γ.k0 a = some x ∨ Γ.H0 a = none ∨ (x = .frz ∧ ∃ vs, Γ.H0 a = some (.tup vs))
  trk : ∀ a x, κ a = some x → H a ≠ none
  trk0 : ∀ a, Γ.H0 a ≠ none → H a ≠ none
  box : ∀ a, κ a = some .box → ∃ i j, H a = some (.lst [.int i, .int j])
  obj : ∀ a k, κ a = some (.obj k) → ∃ so, st[k]? = some so ∧ ObjR Γ κ H a so
  inj : ∀ a b k, κ a = some (.obj k) → κ b = some (.obj k) → a = b
  base : ∀ a o, Γ.H0 a = some o → (Γ.k0 a = none ∨ Γ.k0 a = some .frz) → H a = some o
def OwnS (env : En) (σ : Sl) (i : Nat) (a : Addr) : Prop := σ[i]? = some (some (.ref a)) ∧ ∃ c, env.sl[i]? = some c ∧ c.isOwn = true
structure Rl (Γ : Gm) (κ : Ka) (env : En) (σ : Sl) (H : Hp) : Prop where
  len : σ.length = env.sl.length
  sl : ∀ (i : Nat) (c : C), env.sl[i]? = some c → RelS Γ κ H σ[i]? c
  dist : ∀ (i j : Nat) (a : Addr), OwnS env σ i a → OwnS env σ j a → i = j
  gh : Gh Γ κ env.st H
/-- what an expression came to -/
def RelR (Γ : Gm) (κ : Ka) (H : Hp) (env : En) (σ : Sl) (v : V) : R → Prop
  | .d d => Rep Γ.K Γ.cls κ H v d
  | .nam i => σ[i]? = some (some v)
  | .own ds => ∃ a, v = .ref a ∧ OwnC Γ κ H a (.own ds) ∧ ∀ i, ¬ OwnS env σ i a
  | .dK kvs => ∃ a, v = .ref a ∧ OwnC Γ κ H a (.dK kvs) ∧ ∀ i, ¬ OwnS env σ i a
  | .dT kvs => ∃ a, v = .ref a ∧ OwnC Γ κ H a (.dT kvs) ∧ ∀ i, ¬ OwnS env σ i a
abbrev PX := Ex → Sto → Prop
abbrev PTE := PX → En → (R → En → Prop) → Prop
abbrev PTT := PX → En → (Bool → En → Prop) → Prop
abbrev PTA := PX → En → (List D → En → Prop) → Prop
structure PEn where
  nx : En → Prop
  rt : C → En → Prop
  bk : En → Prop := fun _ => False
  ct : En → Prop := fun _ => False
abbrev PTS := PX → PEn → En → Prop
/-- the contexts in which a piece of text runs -/
structure Fam where
  ι : Type
  X : ι → Cx
  E : ι → XK
  K : PySem.W.Frag
  hK : ∀ i, (X i).K = K
  cls : Cl
  flds : Nat → List Str
/-- what is wanted of an exception, purely, is what is wanted of it -/
def XOk (Γ : Gm) : Prop := ∀ (κ : Ka) (H : Hp) (st : Sto) (c : Nat) (ds : List D) (vs : List V) (d : Option Addr), Gh Γ κ st H → Γ.x ⟨c, ds⟩ st → RepL Γ.K Γ.cls κ H vs ds → ExD κ H d (Γ.flds c) vs → Γ.E (.ref (Γ.cls c)) d H
structure GK (Y : Fam) (Γ : Gm) : Prop where
  k : Γ.K = Y.K
  c : Γ.cls = Y.cls
  f : Γ.flds = Y.flds
  x : XOk Γ
section
variable (Y : Fam)
structure VE (e : Expr) (t : PTE) : Prop where
  ex : ∃ rd : XK → TE, (∀ i, PE (Y.X i) e (rd (Y.E i))) ∧ ∀ (Γ : Gm) (σ : Sl) (κ : Ka) (H : Hp) (env : En) (Q : R → En → Prop) (Q' : VK), GK Y Γ → Rl Γ κ env σ H → t Γ.x env Q →
    (∀ v κ' H' r env', Ext κ H κ' H' → Rl Γ κ' env' σ H' → RelR Γ κ' H' env' σ v r → Q r env' → Q' v H') → rd Γ.E σ H Q'
structure VT (e : Expr) (t : PTT) : Prop where
  ex : ∃ rd : XK → TT, (∀ i, PT (Y.X i) e (rd (Y.E i))) ∧ ∀ (Γ : Gm) (σ : Sl) (κ : Ka) (H : Hp) (env : En) (Q : Bool → En → Prop) (Q' : Bool → Hp → Prop), GK Y Γ → Rl Γ κ env σ H → t Γ.x env Q →
    (∀ b κ' H' env', Ext κ H κ' H' → Rl Γ κ' env' σ H' → Q b env' → Q' b H') → rd Γ.E σ H Q'
structure VW (e : Expr) (t : PTT) : Prop where
  ex : ∃ rd : XK → TT, (∀ i, PW (Y.X i) e (rd (Y.E i))) ∧ ∀ (Γ : Gm) (σ : Sl) (κ : Ka) (H : Hp) (env : En) (Q : Bool → En → Prop) (Q' : Bool → Hp → Prop), GK Y Γ → Rl Γ κ env σ H → t Γ.x env Q →
    (∀ b κ' H' env', Ext κ H κ' H' → Rl Γ κ' env' σ H' → Q b env' → Q' b H') → rd Γ.E σ H Q'
/-- arguments, all data -/
structure VA (es : List Expr) (t : PTA) : Prop where
  ex : ∃ rd : XK → TA, (∀ i, PA (Y.X i) es (rd (Y.E i))) ∧ ∀ (Γ : Gm) (σ : Sl) (κ : Ka) (H : Hp) (env : En) (Q : List D → En → Prop) (Q' : List V → Hp → Prop), GK Y Γ → Rl Γ κ env σ H → t Γ.x env Q →
    (∀ vs κ' H' ds env', Ext κ H κ' H' → Rl Γ κ' env' σ H' → RepL Γ.K Γ.cls κ' H' vs ds → Q ds env' → Q' vs H') → rd Γ.E σ H Q'
def LiftTo (Γ : Gm) (κ : Ka) (H : Hp) (D : PEn) (D' : Ends) : Prop :=
  (∀ σ' κ' H' env', Ext κ H κ' H' → Rl Γ κ' env' σ' H' → D.nx env' → D'.nx σ' H') ∧
  (∀ v κ' H' c env', Ext κ H κ' H' → Gh Γ κ' env'.st H' → RelC Γ κ' H' v c → D.rt c env' → D'.rt v H') ∧
  (∀ σ' κ' H' env', Ext κ H κ' H' → Rl Γ κ' env' σ' H' → D.bk env' → D'.bk σ' H') ∧
  (∀ σ' κ' H' env', Ext κ H κ' H' → Rl Γ κ' env' σ' H' → D.ct env' → D'.ct σ' H')
structure VS (s : Stmt) (t : PTS) : Prop where
  ex : ∃ rd : XK → TS, (∀ i, PS (Y.X i) s (rd (Y.E i))) ∧ ∀ (Γ : Gm) (σ : Sl) (κ : Ka) (H : Hp) (env : En) (D : PEn) (D' : Ends), GK Y Γ → Rl Γ κ env σ H → t Γ.x D env → LiftTo Γ κ H D D' → rd Γ.E D' σ H
structure VSs (s : List Stmt) (t : PTS) : Prop where
  ex : ∃ rd : XK → TS, (∀ i, PSs (Y.X i) s (rd (Y.E i))) ∧ ∀ (Γ : Gm) (σ : Sl) (κ : Ka) (H : Hp) (env : En) (D : PEn) (D' : Ends), GK Y Γ → Rl Γ κ env σ H → t Γ.x D env → LiftTo Γ κ H D D' → rd Γ.E D' σ H
end
theorem LiftTo.ext {Γ : Gm} {κ κ1 : Ka} {H H1 : Hp} {D : PEn} {D' : Ends} (e : Ext κ H κ1 H1) (l : LiftTo Γ κ H D D') : LiftTo Γ κ1 H1 D D' :=
  ⟨fun σ' κ' H' env' x => l.1 σ' κ' H' env' (e.trans x), fun v κ' H' c env' x => l.2.1 v κ' H' c env' (e.trans x), fun σ' κ' H' env' x => l.2.2.1 σ' κ' H' env' (e.trans x), fun σ' κ' H' env' x => l.2.2.2 σ' κ' H' env' (e.trans x)⟩
def rv : R → En → Option D
  | .d d, _ => some d
  | .own ds, _ => some (.lst ds)
  | .nam i, e => match e.sl[i]? with
    | some (.d d) => some d
    | some (.own ds) => some (.lst ds)
    | _ => none
  | _, _ => none
/-- data at its top: a list may be one's own -/
def RepT (Γ : Gm) (κ : Ka) (H : Hp) (v : V) : D → Prop
  | .lst ds => ∃ a vs, v = .ref a ∧ H a = some (.lst vs) ∧ vs.length ≤ sizeLine ∧ RepL Γ.K Γ.cls κ H vs ds
  | d => Rep Γ.K Γ.cls κ H v d
section
variable {Γ : Gm} {κ κ' : Ka} {H H' : Hp} {env env' : En} {σ : Sl} {v : V}
theorem Rep.top {d : D} (h : Rep Γ.K Γ.cls κ H v d) : RepT Γ κ H v d := by
  cases d with
  | lst ds => cases h with | lst h1 h2 h3 h4 => exact ⟨_, _, rfl, h2, h3, h4⟩
  | _ => exact h
theorem Rl.get {i : Nat} {c : C} (r : Rl Γ κ env σ H) (e : env.sl[i]? = some c) : RelS Γ κ H σ[i]? c := r.sl i c e
theorem rv_ok {r : R} {d : D} (I : Rl Γ κ env σ H) (h : RelR Γ κ H env σ v r) (e : rv r env = some d) : RepT Γ κ H v d := by
  cases r with
  | d d' => cases e; exact h.top
  | own ds =>
    cases e
    obtain ⟨a, rfl, ⟨_, _, vs, h2, h3, h4⟩, _⟩ := h
    exact ⟨a, vs, rfl, h2, h3, h4⟩
  | dK _ => cases e
  | dT _ => cases e
  | nam i =>
    have h : σ[i]? = some (some v) := h
    unfold rv at e
    simp only at e
    cases q : env.sl[i]? with
    | none => rw [q] at e; cases e
    | some c =>
      have s := I.get q
      rw [q] at e
      cases c with
      | un => cases e
      | d d' =>
        cases e
        obtain ⟨w, e1, r⟩ := s
        rw [h] at e1
        cases e1
        exact r.top
      | own ds =>
        cases e
        obtain ⟨a, e1, _, _, vs, h2, h3, h4⟩ := s
        rw [h] at e1
        cases e1
        exact ⟨a, vs, rfl, h2, h3, h4⟩
      | dK _ => cases e
      | dT _ => cases e
/-- a result that is kept while something else is evaluated -/
def hold : R → En → (R → En → Prop) → Prop
  | .own ds, e, Q => Q (.d (.lst ds)) e
  | .d d, e, Q => Q (.d d) e
  | .nam i, e, Q => Q (.nam i) e
  | _, _, _ => False
def HeldR (Γ : Gm) (κ : Ka) (H : Hp) (σ : Sl) (v : V) : R → Prop
  | .d d => Rep Γ.K Γ.cls κ H v d
  | .nam i => σ[i]? = some (some v)
  | _ => False
theorem HeldR.ext {r : R} (e : Ext κ H κ' H') (h : HeldR Γ κ H σ v r) : HeldR Γ κ' H' σ v r := by
  cases r with
  | d d => exact Rep.mono e h
  | nam i => exact h
  | _ => exact h.elim
theorem HeldR.rel {r : R} (h : HeldR Γ κ H σ v r) : RelR Γ κ H env σ v r := by
  cases r with
  | d d => exact h
  | nam i => exact h
  | _ => exact h.elim
/-- the sort of one address more -/
def put (κ : Ka) (a : Addr) (k : Kd) : Ka := fun b => if b = a then some k else κ b
theorem put_same {κ : Ka} {a : Addr} {k : Kd} : put κ a k a = some k := if_pos rfl
theorem put_ne {κ : Ka} {a b : Addr} {k : Kd} (h : b ≠ a) : put κ a k b = κ b := if_neg h
theorem Ext.put {a : Addr} {k : Kd} (h : κ a = none) : Ext κ H (put κ a k) H := by
  refine ⟨fun b x e => ?_, fun _ _ => rfl⟩
  rw [put_ne (fun z => by rw [z, h] at e; cases e)]
  exact e
theorem ObjR.ext {a : Addr} {so : SO} (e : Ext κ H κ' H') (ha : H' a = H a) (h : ObjR Γ κ H a so) : ObjR Γ κ' H' a so := by
  cases so with
  | lst ds => obtain ⟨vs, h1, h2, h3⟩ := h; exact ⟨vs, ha.trans h1, h2, h3.mono e⟩
  | dK ds => obtain ⟨vs, h1, h3⟩ := h; exact ⟨vs, ha.trans h1, h3.mono e⟩
  | dT ds => obtain ⟨vs, h1, h3⟩ := h; exact ⟨vs, ha.trans h1, h3.mono e⟩
  | ins c fs => obtain ⟨dx, vs, h1, h3⟩ := h; exact ⟨dx, vs, ha.trans h1, h3.mono e⟩
  | exc c ds => exact h
theorem Gh.put_frz0 {st : Sto} {a : Addr} (g : Gh Γ κ st H) (h : κ a = none) (h0 : Γ.H0 a = none ∨ ∃ vs, Γ.H0 a = some (.tup vs)) (ht : H a ≠ none) : Gh Γ (put κ a .frz) st H := by
  have nk : Γ.k0 a = none := by
    cases q : Γ.k0 a with
    | none => rfl
    | some x => have := g.sub a x q; rw [h] at this; cases this
  have ne : ∀ b x, κ b = some x → b ≠ a := fun b x e z => by rw [z, h] at e; cases e
  refine ⟨fun b x e => (Ext.put (H := H) h).1 b x (g.sub b x e), fun b x e => ?_, fun b x e => ?_, g.trk0, fun b e => ?_, fun b k e => ?_, fun b c k e1 e2 => ?_, g.base⟩
  · by_cases hb : b = a
    · subst hb; rw [put_same] at e; cases e; exact .inr (h0.imp id fun z => ⟨rfl, z⟩)
    · rw [put_ne hb] at e; exact g.new b x e
  · by_cases hb : b = a
    · subst hb; exact ht
    · rw [put_ne hb] at e; exact g.trk b x e
  · by_cases hb : b = a
    · subst hb; rw [put_same] at e; cases e
    · rw [put_ne hb] at e; exact g.box b e
  · by_cases hb : b = a
    · subst hb; rw [put_same] at e; cases e
    · rw [put_ne hb] at e
      obtain ⟨so, h1, h2⟩ := g.obj b k e
      exact ⟨so, h1, h2.ext (Ext.put h) rfl⟩
  · have hb : b ≠ a := fun z => by subst z; rw [put_same] at e1; cases e1
    have hc : c ≠ a := fun z => by subst z; rw [put_same] at e2; cases e2
    rw [put_ne hb] at e1
    rw [put_ne hc] at e2
    exact g.inj b c k e1 e2
theorem Gh.put_frz {st : Sto} {a : Addr} (g : Gh Γ κ st H) (h : κ a = none) (h0 : Γ.H0 a = none) (ht : H a ≠ none) : Gh Γ (put κ a .frz) st H := g.put_frz0 h (.inl h0) ht
theorem OwnC.ext {a : Addr} {c : C} (e : Ext κ H κ' H') (hk : κ' a = none) (ha : H' a = H a) (h : OwnC Γ κ H a c) : OwnC Γ κ' H' a c := by
  cases c with
  | own ds => obtain ⟨_, h0, vs, h1, h2, h3⟩ := h; exact ⟨hk, h0, vs, ha.trans h1, h2, h3.mono e⟩
  | dK ds => obtain ⟨_, h0, vs, h1, h3⟩ := h; exact ⟨hk, h0, vs, ha.trans h1, h3.mono e⟩
  | dT ds => obtain ⟨_, h0, vs, h1, h3⟩ := h; exact ⟨hk, h0, vs, ha.trans h1, h3.mono e⟩
  | _ => exact h.elim
theorem OwnC.facts {a : Addr} {c : C} (h : OwnC Γ κ H a c) : κ a = none ∧ Γ.H0 a = none ∧ H a ≠ none := by
  cases c with
  | own ds => obtain ⟨h, h0, vs, h1, _⟩ := h; exact ⟨h, h0, by rw [h1]; simp⟩
  | dK ds => obtain ⟨h, h0, vs, h1, _⟩ := h; exact ⟨h, h0, by rw [h1]; simp⟩
  | dT ds => obtain ⟨h, h0, vs, h1, _⟩ := h; exact ⟨h, h0, by rw [h1]; simp⟩
  | _ => exact h.elim
theorem RelS.own {o : Option (Option V)} {c : C} (h : RelS Γ κ H o c) (hc : c.isOwn = true) : ∃ a, o = some (some (.ref a)) ∧ OwnC Γ κ H a c := by
  cases c with
  | un => cases hc
  | d _ => cases hc
  | _ => exact h
theorem RelS.mk {o : Option (Option V)} {a : Addr} {c : C} (e : o = some (some (.ref a))) (h : OwnC Γ κ H a c) : RelS Γ κ H o c := by
  cases c with
  | un => exact h.elim
  | d _ => exact h.elim
  | _ => exact ⟨a, e, h⟩
theorem Rl.ownS {i : Nat} {a : Addr} (I : Rl Γ κ env σ H) (h : OwnS env σ i a) : ∃ c, env.sl[i]? = some c ∧ OwnC Γ κ H a c := by
  obtain ⟨e, c, e1, hc⟩ := h
  obtain ⟨b, e2, ho⟩ := (I.get e1).own hc
  rw [e] at e2
  cases e2
  exact ⟨c, e1, ho⟩
/-- THE STEP: the slots as they are -/
theorem OwnC.notTup {a : Addr} {c : C} {vs : List V} (h : OwnC Γ κ H a c) (e : H a = some (.tup vs)) : False := by
  cases c with
  | own ds => obtain ⟨_, _, ws, h1, _⟩ := h; rw [e] at h1; cases h1
  | dK ds => obtain ⟨_, _, ws, h1, _⟩ := h; rw [e] at h1; cases h1
  | dT ds => obtain ⟨_, _, ws, h1, _⟩ := h; rw [e] at h1; cases h1
  | _ => exact h.elim
theorem Rl.step {st' : Sto} (I : Rl Γ κ env σ H) (e : Ext κ H κ' H') (ho : ∀ i a, OwnS env σ i a → κ' a = none ∧ H' a = H a) (g : Gh Γ κ' st' H') : Rl Γ κ' ⟨env.sl, st'⟩ σ H' := by
  refine ⟨I.len, fun i c ec => ?_, fun i j a h1 h2 => I.dist i j a h1 h2, g⟩
  have s := I.get ec
  cases hc : c.isOwn with
  | true =>
    obtain ⟨a, e1, h⟩ := s.own hc
    obtain ⟨k1, k2⟩ := ho i a ⟨e1, c, ec, hc⟩
    exact .mk e1 (h.ext e k1 k2)
  | false =>
    cases c with
    | un => trivial
    | d d => obtain ⟨v, e1, r⟩ := s; exact ⟨v, e1, r.mono e⟩
    | _ => cases hc
/-- a fresh list becomes data -/
theorem Rl.put_frz {a : Addr} (I : Rl Γ κ env σ H) (h : κ a = none) (h0 : Γ.H0 a = none) (ht : H a ≠ none) (hs : ∀ i, ¬ OwnS env σ i a) : Rl Γ (put κ a .frz) env σ H :=
  I.step (Ext.put h) (fun i b hb => ⟨by rw [put_ne (fun z => hs i (by rw [← z]; exact hb))]; exact (I.ownS hb).elim fun c hc => hc.2.facts.1, rfl⟩) (I.gh.put_frz h h0 ht)
theorem hold_ok {r : R} {Q : R → En → Prop} {P : Prop} (I : Rl Γ κ env σ H) (h : RelR Γ κ H env σ v r) (q : hold r env Q)
    (k : ∀ κ' r', Ext κ H κ' H → Rl Γ κ' env σ H → HeldR Γ κ' H σ v r' → Q r' env → P) : P := by
  cases r with
  | d d => exact k κ (.d d) (.refl ..) I h q
  | nam i => exact k κ (.nam i) (.refl ..) I h q
  | own ds =>
    obtain ⟨a, rfl, ⟨h1, h2, vs, h3, h4, h5⟩, h6⟩ := h
    refine k (put κ a .frz) (.d (.lst ds)) (Ext.put h1) (I.put_frz h1 h2 (by rw [h3]; simp) h6) ?_ q
    exact .lst put_same h3 h4 (h5.mono (Ext.put h1))
  | dK _ => exact False.elim q
  | dT _ => exact False.elim q
/-- as data: a list of one's own is one's own no more -/
def En.setC (e : En) (i : Nat) (c : C) : En := ⟨e.sl.set i c, e.st⟩
def fz : R → En → (D → En → Prop) → Prop
  | .d d, e, Q => Q d e
  | .own ds, e, Q => Q (.lst ds) e
  | .dK kvs, e, Q => Q (.dck (kvs.map (·.1)) (kvs.map (·.2))) e
  | .dT kvs, e, Q => Q (.dct (kvs.map (·.1)) (kvs.map (·.2))) e
  | .nam i, e, Q => match e.sl[i]? with
    | some (.d d) => Q d e
    | some (.own ds) => Q (.lst ds) (e.setC i (.d (.lst ds)))
    | some (.dK kvs) => Q (.dck (kvs.map (·.1)) (kvs.map (·.2))) (e.setC i (.d (.dck (kvs.map (·.1)) (kvs.map (·.2)))))
    | some (.dT kvs) => Q (.dct (kvs.map (·.1)) (kvs.map (·.2))) (e.setC i (.d (.dct (kvs.map (·.1)) (kvs.map (·.2)))))
    | _ => False
/-- what stands at a slot becomes data -/
theorem frz_slot {i : Nat} {a : Addr} {c : C} {d : D} (I : Rl Γ κ env σ H) (h : σ[i]? = some (some (.ref a))) (qe : env.sl[i]? = some c) (hc : c.isOwn = true) (h1 : κ a = none) (h2 : Γ.H0 a = none) (ht : H a ≠ none) (rep : Rep Γ.K Γ.cls (put κ a .frz) H (.ref a) d) : Rl Γ (put κ a .frz) (env.setC i (.d d)) σ H := by
  have x : Ext κ H (put κ a .frz) H := Ext.put h1
  have own_i : OwnS env σ i a := ⟨h, _, qe, hc⟩
  have hi : i < env.sl.length := (List.getElem?_eq_some_iff.mp qe).1
  refine ⟨by rw [I.len]; simp [En.setC], fun j c ec => ?_, fun j l b o1 o2 => ?_, I.gh.put_frz h1 h2 ht⟩
  · by_cases hj : j = i
    · subst hj
      have ec : (env.sl.set j (C.d d))[j]? = some c := ec
      rw [List.getElem?_set_self hi] at ec
      cases ec
      exact ⟨_, h, rep⟩
    · have ec : (env.sl.set i (C.d d))[j]? = some c := ec
      rw [List.getElem?_set_ne (Ne.symm hj)] at ec
      have s := I.get ec
      cases hc : c.isOwn with
      | true =>
        obtain ⟨b, e1, hb⟩ := s.own hc
        have hba : b ≠ a := fun z => hj (I.dist j i a ⟨z ▸ e1, c, ec, hc⟩ own_i)
        exact .mk e1 (hb.ext x (by rw [put_ne hba]; exact hb.facts.1) rfl)
      | false =>
        cases c with
        | un => trivial
        | d d => obtain ⟨v, e1, r⟩ := s; exact ⟨v, e1, r.mono x⟩
        | _ => cases hc
  · have old : ∀ m, OwnS (env.setC i (.d d)) σ m b → OwnS env σ m b := fun m ⟨z1, c, z2, z3⟩ => by
      by_cases hm : m = i
      · subst hm
        have z2 : (env.sl.set m (C.d d))[m]? = some c := z2
        rw [List.getElem?_set_self hi] at z2
        cases z2
        cases z3
      · have z2 : (env.sl.set i (C.d d))[m]? = some c := z2
        rw [List.getElem?_set_ne (Ne.symm hm)] at z2
        exact ⟨z1, c, z2, z3⟩
    exact I.dist j l b (old j o1) (old l o2)
theorem dct_rep {a : Addr} {vs : List (List Key × V)} {kvs : List (List Key × D)} (h1 : κ a = none) (h3 : H a = some (.dT vs)) (h5 : PR Γ.K Γ.cls κ H vs kvs) : Rep Γ.K Γ.cls (put κ a .frz) H (.ref a) (.dct (kvs.map (·.1)) (kvs.map (·.2))) := by
  obtain ⟨e1, e2, e3⟩ := h5.split
  exact .dct put_same (by rw [← e1]; exact h3) e2 (e3.mono (Ext.put h1))
theorem dck_rep {a : Addr} {vs : List (Key × V)} {kvs : List (Key × D)} (h1 : κ a = none) (h3 : H a = some (.dK vs)) (h5 : PR Γ.K Γ.cls κ H vs kvs) : Rep Γ.K Γ.cls (put κ a .frz) H (.ref a) (.dck (kvs.map (·.1)) (kvs.map (·.2))) := by
  obtain ⟨e1, e2, e3⟩ := h5.split
  exact .dck put_same (by rw [← e1]; exact h3) e2 (e3.mono (Ext.put h1))
theorem fz_ok {r : R} {Q : D → En → Prop} {P : Prop} (I : Rl Γ κ env σ H) (h : RelR Γ κ H env σ v r) (q : fz r env Q)
    (k : ∀ κ' d env', Ext κ H κ' H → Rl Γ κ' env' σ H → Rep Γ.K Γ.cls κ' H v d → Q d env' → P) : P := by
  cases r with
  | d d => exact k κ _ _ (.refl ..) I h q
  | own ds =>
    obtain ⟨a, rfl, ⟨h1, h2, vs, h3, h4, h5⟩, h6⟩ := h
    refine k (put κ a .frz) (.lst ds) env (Ext.put h1) (I.put_frz h1 h2 (by rw [h3]; simp) h6) ?_ q
    exact .lst put_same h3 h4 (h5.mono (Ext.put h1))
  | dK ds =>
    obtain ⟨a, rfl, ⟨h1, h2, vs, h3, h5⟩, h6⟩ := h
    exact k (put κ a .frz) _ env (Ext.put h1) (I.put_frz h1 h2 (by rw [h3]; simp) h6) (dck_rep h1 h3 h5) q
  | dT ds =>
    obtain ⟨a, rfl, ⟨h1, h2, vs, h3, h5⟩, h6⟩ := h
    exact k (put κ a .frz) _ env (Ext.put h1) (I.put_frz h1 h2 (by rw [h3]; simp) h6) (dct_rep h1 h3 h5) q
  | nam i =>
    have h : σ[i]? = some (some v) := h
    unfold fz at q
    simp only at q
    cases qe : env.sl[i]? with
    | none => rw [qe] at q; exact False.elim q
    | some c =>
      have s := I.get qe
      rw [qe] at q
      cases c with
      | un => exact False.elim q
      | dK kvs =>
        obtain ⟨a, e1, h1, h2, vs, h3, h5⟩ := s
        rw [h] at e1
        cases e1
        have rep := dck_rep h1 h3 h5
        exact k (put κ a .frz) _ _ (Ext.put h1) (frz_slot I h qe rfl h1 h2 (by rw [h3]; simp) rep) rep q
      | dT kvs =>
        obtain ⟨a, e1, h1, h2, vs, h3, h5⟩ := s
        rw [h] at e1
        cases e1
        have rep := dct_rep h1 h3 h5
        exact k (put κ a .frz) _ _ (Ext.put h1) (frz_slot I h qe rfl h1 h2 (by rw [h3]; simp) rep) rep q
      | d d' =>
        obtain ⟨w, e1, r⟩ := s
        rw [h] at e1
        cases e1
        exact k κ _ _ (.refl ..) I r q
      | own ds =>
        obtain ⟨a, e1, h1, h2, vs, h3, h4, h5⟩ := s
        rw [h] at e1
        cases e1
        have rep : Rep Γ.K Γ.cls (put κ a .frz) H (.ref a) (.lst ds) := .lst put_same h3 h4 (h5.mono (Ext.put h1))
        exact k (put κ a .frz) _ _ (Ext.put h1) (frz_slot I h qe rfl h1 h2 (by rw [h3]; simp) rep) rep q
end
end Pu
set_option maxRecDepth 100000
set_option maxHeartbeats 4000000
namespace Pu
open PySem L2
section
variable {Γ : Gm} {κ κ' : Ka} {H H' : Hp} {env env' : En} {σ : Sl} {v : V} {st : Sto}
theorem Gh.nokap {a : Addr} (g : Gh Γ κ st H) (h : H a = none) : κ a = none := by
  cases q : κ a with
  | none => rfl
  | some x => exact absurd h (g.trk a x q)
theorem Gh.nokap0 {a : Addr} (g : Gh Γ κ st H) (h : H a = none) : Γ.H0 a = none := by
  cases q : Γ.H0 a with
  | none => rfl
  | some x => exact absurd h (g.trk0 a (by rw [q]; simp))
theorem Ext.upd_new {p : Addr} {o : HO} (g : Gh Γ κ st H) (h : H p = none) : Ext κ H κ (upd H p o) :=
  ⟨fun _ _ e => e, fun a e => upd_ne fun z => by rw [z] at e; rw [g.nokap h] at e; cases e⟩
/-- an unsorted address is laid or changed -/
theorem Ext.upd {p : Addr} {o : HO} (h : κ p = none) : Ext κ H κ (upd H p o) :=
  ⟨fun _ _ e => e, fun a e => upd_ne fun z => by rw [z, h] at e; cases e⟩
theorem Gh.upd {p : Addr} {o : HO} (g : Gh Γ κ st H) (h : κ p = none) (h0 : Γ.H0 p = none) : Gh Γ κ st (upd H p o) := by
  have ne : ∀ b x, κ b = some x → b ≠ p := fun b x e z => by rw [z, h] at e; cases e
  refine ⟨g.sub, g.new, fun b x e => ?_, fun b e => ?_, fun b e => ?_, fun b k e => ?_, g.inj, fun b u e hk => ?_⟩
  · rw [upd_ne (ne b x e)]; exact g.trk b x e
  · by_cases hb : b = p
    · rw [hb, upd_same]; simp
    · rw [upd_ne hb]; exact g.trk0 b e
  · rw [upd_ne (ne b _ e)]; exact g.box b e
  · obtain ⟨so, h1, h2⟩ := g.obj b k e
    exact ⟨so, h1, h2.ext (Ext.upd h) (upd_ne (ne b _ e))⟩
  · rw [upd_ne (fun z => by rw [z, h0] at e; cases e)]; exact g.base b u e hk
theorem Rl.upd_new {p : Addr} {o : HO} (I : Rl Γ κ env σ H) (h : H p = none) : Rl Γ κ env σ (upd H p o) :=
  I.step (Ext.upd_new I.gh h) (fun i a ho => by
    obtain ⟨c, _, hc⟩ := I.ownS ho
    obtain ⟨f1, f2, f3⟩ := hc.facts
    exact ⟨f1, upd_ne fun z => f3 (z ▸ h)⟩) (I.gh.upd (I.gh.nokap h) (I.gh.nokap0 h))
theorem Rl.fresh {p : Addr} (I : Rl Γ κ env σ H) (h : H p = none) : ∀ i, ¬ OwnS env σ i p := fun i ho => by
  obtain ⟨c, _, hc⟩ := I.ownS ho
  exact hc.facts.2.2 h
theorem new_lst {p : Addr} {vs : List V} {ds : List D} (I : Rl Γ κ env σ H) (h : H p = none) (hl : vs.length ≤ sizeLine) (r : RepL Γ.K Γ.cls κ H vs ds) :
    RelR Γ κ (upd H p (.lst vs)) env σ (.ref p) (.own ds) :=
  ⟨p, rfl, ⟨I.gh.nokap h, I.gh.nokap0 h, vs, upd_same, hl, r.mono (Ext.upd_new I.gh h)⟩, I.fresh h⟩
/-- a new tuple is data at once -/
theorem new_tup {p : Addr} {vs : List V} {ds : List D} (ho : ordL ds = false) (I : Rl Γ κ env σ H) (h : H p = none) (hl : vs.length ≤ sizeLine) (r : RepL Γ.K Γ.cls κ H vs ds) :
    Ext κ H (put κ p .frz) (upd H p (.tup vs)) ∧ Rl Γ (put κ p .frz) env σ (upd H p (.tup vs)) ∧ Rep Γ.K Γ.cls (put κ p .frz) (upd H p (.tup vs)) (.ref p) (.tup ds) := by
  have J := I.upd_new (o := .tup vs) h
  have k := I.gh.nokap h
  have e : Ext κ H (put κ p .frz) (upd H p (.tup vs)) := (Ext.upd_new I.gh h).trans (Ext.put k)
  exact ⟨e, J.put_frz k (I.gh.nokap0 h) (by rw [upd_same]; simp) (I.fresh h), .tup ho put_same upd_same hl (r.mono e)⟩
theorem new_tupF {p : Addr} {vs : List V} {ds : List D} {ob : Obj} (ho : ordL ds = true) (h5 : ob.dict = none) (h6 : ob.cls = .type "tuple") (I : Rl Γ κ env σ H) (h : H p = none) (hl : vs.length ≤ sizeLine) (r : RepL Γ.K Γ.cls κ H vs ds) :
    Ext κ H (put κ p .frz) (upd H p (.frz ob (.tup vs))) ∧ Rl Γ (put κ p .frz) env σ (upd H p (.frz ob (.tup vs))) ∧ Rep Γ.K Γ.cls (put κ p .frz) (upd H p (.frz ob (.tup vs))) (.ref p) (.tup ds) := by
  have J := I.upd_new (o := .frz ob (.tup vs)) h
  have k := I.gh.nokap h
  have e : Ext κ H (put κ p .frz) (upd H p (.frz ob (.tup vs))) := (Ext.upd_new I.gh h).trans (Ext.put k)
  exact ⟨e, J.put_frz k (I.gh.nokap0 h) (by rw [upd_same]; simp) (I.fresh h), .tupF ho h5 h6 put_same upd_same hl (r.mono e)⟩
/-- either way -/
theorem new_tupB {vs : List V} {ds : List D} {Q' : VK} (I : Rl Γ κ env σ H) (hl : vs.length ≤ sizeLine) (r : RepL Γ.K Γ.cls κ H vs ds)
    (k : ∀ κ' H' p, Ext κ H κ' H' → Rl Γ κ' env σ H' → Rep Γ.K Γ.cls κ' H' (.ref p) (.tup ds) → Q' (.ref p) H') : PuE.nT H vs Q' := by
  cases ho : ordL ds with
  | false =>
    refine .inl fun p hp => ?_
    obtain ⟨x1, I1, r1⟩ := new_tup ho I hp hl r
    exact k _ _ _ x1 I1 r1
  | true =>
    refine .inr fun p ob hp h5 h6 => ?_
    obtain ⟨x1, I1, r1⟩ := new_tupF ho h5 h6 I hp hl r
    exact k _ _ _ x1 I1 r1
/-- a rule by values carries a pure one -/
def OpRef (r : PySem.W.Frag → R2) (p : D → D → (R → Prop) → Prop) : Prop :=
  ∀ (Γ : Gm) (σ : Sl) (κ : Ka) (H : Hp) (env : En) (v u : V) (d e : D) (Q : R → Prop) (Q' : VK), Rl Γ κ env σ H → RepT Γ κ H v d → RepT Γ κ H u e → p d e Q →
    (∀ v' κ' H' r, Ext κ H κ' H' → Rl Γ κ' env σ H' → RelR Γ κ' H' env σ v' r → Q r → Q' v' H') → r Γ.K v u H Q'
def t2 (ta tb : PTE) (p : D → D → (R → Prop) → Prop) : PTE := fun x env Q => ta x env fun r1 e1 => hold r1 e1 fun r1 e1 => tb x e1 fun r2 e2 =>
  match rv r1 e2, rv r2 e2 with
  | some d1, some d2 => p d1 d2 (fun r => Q r e2)
  | _, _ => False
def t1 (ta : PTE) (p : D → (R → Prop) → Prop) : PTE := fun x env Q => ta x env fun r1 e1 =>
  match rv r1 e1 with
  | some d1 => p d1 (fun r => Q r e1)
  | _ => False
variable {Y : Fam} {a b : Expr} {ta tb : PTE} {pos : Pos}
/-- two expressions in a row, both read -/
theorem two_ref {ra rb : XK → TE} {p : D → D → (R → Prop) → Prop} {r : PySem.W.Frag → R2} (hr : OpRef r p)
    (fa : ∀ (Γ : Gm) (σ : Sl) (κ : Ka) (H : Hp) (env : En) (Q : R → En → Prop) (Q' : VK), GK Y Γ → Rl Γ κ env σ H → ta Γ.x env Q →
    (∀ v κ' H' r env', Ext κ H κ' H' → Rl Γ κ' env' σ H' → RelR Γ κ' H' env' σ v r → Q r env' → Q' v H') → ra Γ.E σ H Q')
    (fb : ∀ (Γ : Gm) (σ : Sl) (κ : Ka) (H : Hp) (env : En) (Q : R → En → Prop) (Q' : VK), GK Y Γ → Rl Γ κ env σ H → tb Γ.x env Q →
    (∀ v κ' H' r env', Ext κ H κ' H' → Rl Γ κ' env' σ H' → RelR Γ κ' H' env' σ v r → Q r env' → Q' v H') → rb Γ.E σ H Q')
    {Q : R → En → Prop} {Q' : VK} (hK : GK Y Γ) (I : Rl Γ κ env σ H) (q : t2 ta tb p Γ.x env Q)
    (k : ∀ v κ' H' r env', Ext κ H κ' H' → Rl Γ κ' env' σ H' → RelR Γ κ' H' env' σ v r → Q r env' → Q' v H') :
    ra Γ.E σ H fun x H1 => rb Γ.E σ H1 fun y H2 => r Y.K x y H2 Q' := by
  refine fa Γ σ κ H env _ _ hK I q fun v κ1 H1 r1 e1 x1 I1 h1 q1 => ?_
  refine hold_ok I1 h1 q1 fun κ2 r2 x2 I2 h2 q2 => ?_
  refine fb Γ σ κ2 H1 e1 _ _ hK I2 q2 fun u κ3 H3 r3 e3 x3 I3 h3 q3 => ?_
  have h2' : RelR Γ κ3 H3 e3 σ v r2 := (h2.ext x3).rel
  cases e1' : rv r2 e3 with
  | none => rw [e1'] at q3; exact False.elim q3
  | some d1 =>
    cases e2' : rv r3 e3 with
    | none => rw [e1', e2'] at q3; exact False.elim q3
    | some d2 =>
      rw [e1', e2'] at q3
      rw [← hK.k]
      exact hr Γ σ κ3 H3 e3 v u d1 d2 _ Q' I3 (rv_ok I3 h2' e1') (rv_ok I3 h3 e2') q3 fun v' κ' H' r x I' h' q' => k v' κ' H' r e3 (((x1.trans x2).trans x3).trans x) I' h' q'
theorem ve_op {op : Operator} {r : PySem.W.Frag → R2} {p : D → D → (R → Prop) → Prop} (ho : ∀ X : Cx, OpR X (binaryOp op) (r X.K)) (hr : OpRef r p) (ha : VE Y a ta) (hb : VE Y b tb) : VE Y (.BinOp a op b pos) (t2 ta tb p) := by
  obtain ⟨ra, pa, fa⟩ := ha.ex
  obtain ⟨rb, pb, fb⟩ := hb.ex
  refine ⟨⟨fun E => tOp (r Y.K) (ra E) (rb E), fun i => pe_op (by have := ho (Y.X i); rw [Y.hK i] at this; exact this) (pa i) (pb i), fun Γ σ κ H env Q Q' hK I q k => ?_⟩⟩
  exact two_ref hr fa fb hK I q k
theorem ve_cmp {op : CmpOp} {r : PySem.W.Frag → R2} {p : D → D → (R → Prop) → Prop} (ho : ∀ i, OpR (Y.X i) (compareOp op) (r (Y.X i).K)) (hr : OpRef r p) (ha : VE Y a ta) (hb : VE Y b tb) (hm : behindInMarks op b = false) : VE Y (.Compare a [op] [b] pos) (t2 ta tb p) := by
  obtain ⟨ra, pa, fa⟩ := ha.ex
  obtain ⟨rb, pb, fb⟩ := hb.ex
  refine ⟨⟨fun E => tOp (r Y.K) (ra E) (rb E), fun i => pe_cmpR (by have := ho i; rw [Y.hK i] at this; exact this) (pa i) (pb i) hm, fun Γ σ κ H env Q Q' hK I q k => ?_⟩⟩
  exact two_ref hr fa fb hK I q k
/-- a bool as a test -/
def tB (t : PTE) : PTT := fun x env Q => t x env fun r e => match rv r e with
  | some (.bl b) => Q b e
  | _ => False
theorem vt_val {e : Expr} {t : PTE} (h : VE Y e t) (he : ∀ (X : Cx) whole, isTrue e X.env whole = (do let v ← whole; standAt e.pos; holding [v] (truthy v)) := by intro _ _; rfl) : VT Y e (tB t) := by
  obtain ⟨ra, pa, fa⟩ := h.ex
  refine ⟨⟨fun E => L2.tB (ra E), fun i => pt_val (pa i) (he _), fun Γ σ κ H env Q Q' hK I q k => ?_⟩⟩
  refine fa Γ σ κ H env _ _ hK I q fun v κ1 H1 r1 e1 x1 I1 h1 q1 => ?_
  cases e1' : rv r1 e1 with
  | none => rw [e1'] at q1; exact False.elim q1
  | some d =>
    rw [e1'] at q1
    have rt := rv_ok I1 h1 e1'
    cases d with
    | bl b => cases rt; exact ⟨b, rfl, k b κ1 H1 e1 x1 I1 q1⟩
    | _ => exact False.elim q1
theorem vt_cmp {op : CmpOp} {r : PySem.W.Frag → R2} {p : D → D → (R → Prop) → Prop} (ho : ∀ i, OpR (Y.X i) (compareOp op) (r (Y.X i).K)) (hr : OpRef r p) (ha : VE Y a ta) (hb : VE Y b tb) (hm : behindInMarks op b = false) : VT Y (.Compare a [op] [b] pos) (tB (t2 ta tb p)) := by
  obtain ⟨ra, pa, fa⟩ := ha.ex
  obtain ⟨rb, pb, fb⟩ := hb.ex
  refine ⟨⟨fun E => tTest (tOp (r Y.K) (ra E) (rb E)), fun i => pt_cmpR (by have := ho i; rw [Y.hK i] at this; exact this) (pa i) (pb i) hm, fun Γ σ κ H env Q Q' hK I q k => ?_⟩⟩
  refine two_ref hr fa fb hK I q fun v κ1 H1 r1 e1 x1 I1 h1 q1 => ?_
  cases e1' : rv r1 e1 with
  | none => rw [e1'] at q1; exact False.elim q1
  | some d =>
    rw [e1'] at q1
    have rt := rv_ok I1 h1 e1'
    cases d with
    | bl b => cases rt; exact ⟨b, rfl, k b κ1 H1 e1 x1 I1 q1⟩
    | _ => exact False.elim q1
def tName (i : Nat) : PTE := fun _ env Q => match env.sl[i]? with
  | some (.d d) => Q (.d d) env
  | some .un => False
  | none => False
  | some _ => Q (.nam i) env
theorem ve_name (i : Nat) {x : Str} (hN : ∀ j, (Y.X j).N[i]? = some x := by intro _; rfl) (hv : ∀ j, Vis (Y.X j).env.scope x := by first | exact fun _ => Or.inl rfl | exact fun _ => Or.inr (Or.inl rfl) | exact fun _ => Or.inr (Or.inr rfl))
    (hd : (x == ("__debug__" : Str)) = false := by decide) (hcd : (x == ("__classdict__" : Str)) = false := by decide) : VE Y (.Name x pos) (tName i) := by
  refine ⟨⟨fun _ => tVar i, fun j => pe_var (hN j) (hv j) hd hcd, fun Γ σ κ H env Q Q' hK I q k => ?_⟩⟩
  unfold tName at q
  cases e : env.sl[i]? with
  | none => rw [e] at q; exact False.elim q
  | some c =>
    have s := I.get e
    rw [e] at q
    cases c with
    | un => exact False.elim q
    | d d => obtain ⟨v, e1, r⟩ := s; exact ⟨v, e1, k v κ H (.d d) env (.refl ..) I r q⟩
    | own ds => obtain ⟨a, e1, r⟩ := s; exact ⟨.ref a, e1, k _ κ H (.nam i) env (.refl ..) I e1 q⟩
    | dK ds => obtain ⟨a, e1, r⟩ := s; exact ⟨.ref a, e1, k _ κ H (.nam i) env (.refl ..) I e1 q⟩
    | dT ds => obtain ⟨a, e1, r⟩ := s; exact ⟨.ref a, e1, k _ κ H (.nam i) env (.refl ..) I e1 q⟩
def tD (d : D) : PTE := fun _ env Q => Q (.d d) env
theorem ve_int {i j} : VE Y (.Constant (.int i) j pos) (tD (.int i)) := ⟨⟨fun _ => tC (.int i), fun _ => pe_int, fun Γ σ κ H env Q Q' hK I q k => k _ κ H (.d (.int i)) env (.refl ..) I (.int i) q⟩⟩
theorem ve_bl {i j} : VE Y (.Constant (.bool i) j pos) (tD (.bl i)) := ⟨⟨fun _ => tC (.bl i), fun _ => pe_bl, fun Γ σ κ H env Q Q' hK I q k => k _ κ H (.d (.bl i)) env (.refl ..) I (.bl i) q⟩⟩
theorem ve_str (l : List Nat) {x : Str} {j} (hx : x = ⟨l.toArray⟩ := by decide +kernel) (hl : SOk l := by decide +kernel) : VE Y (.Constant (.str x) j pos) (tD (.str l)) := by
  subst hx
  exact ⟨⟨fun _ => tC (.str ⟨l.toArray⟩), fun _ => pe_str, fun Γ σ κ H env Q Q' hK I q k => k _ κ H (.d (.str l)) env (.refl ..) I (.str l hl) q⟩⟩
/-- a text that the top has bound -/
theorem ve_globS (l : List Nat) {x y : Str} {t : Tok} (hm : ∀ i, (Y.X i).mg x = some (.str y t)) (hg : ∀ i, Gl (Y.X i) x := by intro _; rfl) (hy : y = ⟨l.toArray⟩ := by decide +kernel) (hl : SOk l := by decide +kernel) (hd : (x == ("__debug__" : Str)) = false := by decide) :
    VE Y (.Name x pos) (tD (.str l)) := by
  subst hy
  exact ⟨⟨fun _ => tC (.str ⟨l.toArray⟩), fun i => pe_glob (hg i) (hm i) ⟨_, rfl⟩ hd, fun Γ σ κ H env Q Q' hK I q k => k _ κ H (.d (.str l)) env (.refl ..) I (.str l hl) q⟩⟩
theorem ve_globI {x : Str} {n : Int} {t : Tok} (hm : ∀ i, (Y.X i).mg x = some (.int n t)) (hg : ∀ i, Gl (Y.X i) x := by intro _; rfl) (hd : (x == ("__debug__" : Str)) = false := by decide) :
    VE Y (.Name x pos) (tD (.int n)) :=
  ⟨⟨fun _ => tC (.int n), fun i => pe_glob (hg i) (hm i) ⟨_, rfl⟩ hd, fun Γ σ κ H env Q Q' hK I q k => k _ κ H (.d (.int n)) env (.refl ..) I (.int n) q⟩⟩
def pAdd (d e : D) (Q : R → Prop) : Prop := match d, e with
  | .int i, .int j => Q (.d (.int (i + j)))
  | .str s, .str t => s.length + t.length ≤ sizeLine ∧ Q (.d (.str (s ++ t)))
  | .lst xs, .lst ys => xs.length + ys.length ≤ sizeLine ∧ Q (.own (xs ++ ys))
  | .tup xs, .tup ys => xs.length + ys.length ≤ sizeLine ∧ Q (.d (.tup (xs ++ ys)))
  | _, _ => False
def rStrAdd : R2 := fun x y H Q => ∃ i j, x = .str i ∧ y = .str j ∧ i.length + j.length ≤ sizeLine ∧ Q (.str (i ++ j)) H
def rAddAll (K : PySem.W.Frag) : R2 := fun x y H Q => rI0 (fun i j => .int (i + j)) x y H Q ∨ rStrAdd x y H Q ∨ rCat x y H Q ∨ PuE.rCatTB K x y H Q
theorem op_addAll (X : Cx) : OpR X (binaryOp .Add) (rAddAll X.K) := OpR.or op_add (OpR.or op_add_str (OpR.or op_cat PuE.op_catB))
theorem str_add (s t : List Nat) : ((⟨s.toArray⟩ : Str) ++ (⟨t.toArray⟩ : Str)) = ⟨(s ++ t).toArray⟩ := by
  show Str.append _ _ = _
  unfold Str.append
  simp
theorem str_len (s : List Nat) : (⟨s.toArray⟩ : Str).length = s.length := by
  unfold Str.length
  simp
theorem Rep.strE {K : PySem.W.Frag} {cl : Cl} {s : List Nat} (h : Rep K cl κ H v (.str s)) : v = .str ⟨s.toArray⟩ ∧ SOk s := by cases h with | str _ h => exact ⟨rfl, h⟩
theorem Rep.sqT {K : PySem.W.Frag} {cl : Cl} {ds : List D} (h : Rep K cl κ H v (.tup ds)) : ∃ a vs, v = .ref a ∧ SqT K H a vs ∧ vs.length ≤ sizeLine ∧ RepL K cl κ H vs ds := by
  cases h with
  | tup _ _ h1 h2 h3 => exact ⟨_, _, rfl, SqT.of h1, h2, h3⟩
  | tupF _ _ _ _ h1 h2 h3 => exact ⟨_, _, rfl, .inl (.inr ⟨_, h1⟩), h2, h3⟩
theorem SOk.append {s t : List Nat} (h : SOk s) (g : SOk t) (q : s.length + t.length ≤ sizeLine) : SOk (s ++ t) :=
  ⟨by rw [List.length_append]; exact q, fun c hc => (List.mem_append.mp hc).elim (h.2 c) (g.2 c)⟩
theorem ref_add : OpRef rAddAll pAdd := by
  intro Γ σ κ H env v u d e Q Q' I hd he q k
  cases d with
  | int i =>
    cases e with
    | int j => cases hd; cases he; exact .inl ⟨i, j, rfl, rfl, k _ κ H (.d (.int (i + j))) (.refl ..) I (.int _) q⟩
    | _ => exact False.elim q
  | str s =>
    cases e with
    | str t =>
      obtain ⟨rfl, h1⟩ := hd.strE
      obtain ⟨rfl, h2⟩ := he.strE
      refine .inr (.inl ⟨_, _, rfl, rfl, by rw [str_len, str_len]; exact q.1, ?_⟩)
      rw [str_add]
      exact k _ κ H (.d (.str (s ++ t))) (.refl ..) I (.str _ (h1.append h2 q.1)) q.2
    | _ => exact False.elim q
  | lst xs =>
    cases e with
    | lst ys =>
      obtain ⟨a, vs, rfl, h1, h2, h3⟩ := hd
      obtain ⟨b, ws, rfl, g1, g2, g3⟩ := he
      refine .inr (.inr (.inl ⟨a, b, vs, ws, rfl, rfl, h1, g1, by rw [h3.length, g3.length]; exact q.1, fun p hp => ?_⟩))
      refine k _ κ _ (.own (xs ++ ys)) (Ext.upd_new I.gh hp) (I.upd_new hp) (new_lst I hp (by rw [List.length_append, h3.length, g3.length]; exact q.1) (h3.append g3)) q.2
    | _ => exact False.elim q
  | tup xs =>
    cases e with
    | tup ys =>
      obtain ⟨a, vs, rfl, h1, h2, h3⟩ := Rep.sqT hd
      obtain ⟨b, ws, rfl, g1, g2, g3⟩ := Rep.sqT he
      have hl : vs.length + ws.length ≤ sizeLine := by rw [h3.length, g3.length]; exact q.1
      refine .inr (.inr (.inr ⟨a, b, vs, ws, rfl, rfl, h1, g1, hl, fun z => ?_, fun _ z => ?_, fun _ _ => ?_⟩))
      · subst z
        have e : xs = [] := List.eq_nil_of_length_eq_zero (by rw [← h3.length]; rfl)
        subst e
        have q := q.2
        exact k _ κ H (.d (.tup ys)) (.refl ..) I he q
      · subst z
        have e : ys = [] := List.eq_nil_of_length_eq_zero (by rw [← g3.length]; rfl)
        subst e
        have q := q.2
        rw [List.append_nil] at q
        exact k _ κ H (.d (.tup xs)) (.refl ..) I hd q
      · exact new_tupB I (by rw [List.length_append]; exact hl) (h3.append g3) fun κ' H' p x1 I1 r1 => k _ _ _ (.d (.tup (xs ++ ys))) x1 I1 r1 q.2
    | _ => exact False.elim q
  | _ => exact False.elim q
theorem ve_add (ha : VE Y a ta) (hb : VE Y b tb) : VE Y (.BinOp a .Add b pos) (t2 ta tb pAdd) := ve_op op_addAll ref_add ha hb
/-- two ints -/
def pI (C : Int → Int → Prop) (f : Int → Int → D) (d e : D) (Q : R → Prop) : Prop := match d, e with
  | .int i, .int j => C i j ∧ Q (.d (f i j))
  | _, _ => False
theorem ref_I {C : Int → Int → Prop} {f : Int → Int → Int} : OpRef (fun _ => rI C fun i j => .int (f i j)) (pI C fun i j => .int (f i j)) := by
  intro Γ σ κ H env v u d e Q Q' I hd he q k
  cases d with
  | int i =>
    cases e with
    | int j => cases hd; cases he; exact ⟨i, j, rfl, rfl, q.1, k _ κ H (.d (.int (f i j))) (.refl ..) I (.int _) q.2⟩
    | _ => exact False.elim q
  | _ => exact False.elim q
theorem ref_I0 {f : Int → Int → Int} : OpRef (fun _ => rI0 fun i j => .int (f i j)) (pI (fun _ _ => True) fun i j => .int (f i j)) := by
  intro Γ σ κ H env v u d e Q Q' I hd he q k
  cases d with
  | int i =>
    cases e with
    | int j => cases hd; cases he; exact ⟨i, j, rfl, rfl, k _ κ H (.d (.int (f i j))) (.refl ..) I (.int _) q.2⟩
    | _ => exact False.elim q
  | _ => exact False.elim q
theorem ve_sub (ha : VE Y a ta) (hb : VE Y b tb) : VE Y (.BinOp a .Sub b pos) (t2 ta tb (pI (fun _ _ => True) fun i j => .int (i - j))) := ve_op (fun _ => op_sub) ref_I0 ha hb
theorem ve_mod (ha : VE Y a ta) (hb : VE Y b tb) : VE Y (.BinOp a .Mod b pos) (t2 ta tb (pI (fun _ j => 0 < j) fun i j => .int (i % j))) := ve_op (fun _ => op_mod) ref_I ha hb
theorem ve_fdiv (ha : VE Y a ta) (hb : VE Y b tb) : VE Y (.BinOp a .FloorDiv b pos) (t2 ta tb (pI CDivW fun i j => .int (i / j))) := ve_op (fun _ => op_fdivW) ref_I ha hb
theorem ve_pow (ha : VE Y a ta) (hb : VE Y b tb) : VE Y (.BinOp a .Pow b pos) (t2 ta tb (pI CPow fun i j => .int (i ^ j.toNat))) := ve_op (fun _ => op_pow) ref_I ha hb
end
end Pu
set_option maxRecDepth 100000
set_option maxHeartbeats 4000000
namespace Pu
open PySem L2
mutual
def D.py : D → PyData
  | .non => .none
  | .bl b => .bool b
  | .int i => .int i
  | .str s => .str ⟨s.toArray⟩
  | .lst ds => .list (D.pyL ds)
  | .tup ds => .tuple (D.pyL ds)
  | .scr _ => .none
  | .box => .none
  | .ref _ => .none
  | .cls _ => .none
  | .exc _ _ _ => .none
  | .dct _ _ => .none
  | .dck _ _ => .none
  | .dcn _ _ => .none
def D.pyL : List D → List PyData
  | [] => []
  | d :: ds => d.py :: D.pyL ds
end
mutual
/-- no object within, not too deep -/
def D.ok : D → Nat → Bool
  | .non, _ => true
  | .bl _, _ => true
  | .int _, _ => true
  | .str _, _ => true
  | .lst ds, n + 1 => D.okL ds n
  | .tup ds, n + 1 => D.okL ds n
  | .lst _, 0 => false
  | .tup _, 0 => false
  | .scr _, _ => false
  | .box, _ => false
  | .ref _, _ => false
  | .cls _, _ => false
  | .exc _ _ _, _ => false
  | .dct _ _, _ => false
  | .dck _ _, _ => false
  | .dcn _ _, _ => false
def D.okL : List D → Nat → Bool
  | [], _ => true
  | d :: ds, n => d.ok n && D.okL ds n
end
mutual
def D.eq : D → D → Bool
  | .non, .non => true
  | .bl a, .bl b => a == b
  | .bl a, .int j => (if a then 1 else 0) == j
  | .int i, .bl b => i == (if b then 1 else 0)
  | .int i, .int j => i == j
  | .str x, .str y => x == y
  | .lst xs, .lst ys => D.eqL xs ys
  | .tup xs, .tup ys => D.eqL xs ys
  | _, _ => false
def D.eqL : List D → List D → Bool
  | [], [] => true
  | x :: xs, y :: ys => D.eq x y && D.eqL xs ys
  | _, _ => false
end
theorem str_beq (x y : List Nat) : ((⟨x.toArray⟩ : Str) == (⟨y.toArray⟩ : Str)) = (x == y) := by
  by_cases h : x = y
  · subst h; simp
  · have h2 : ¬ (⟨x.toArray⟩ : Str) = ⟨y.toArray⟩ := fun z => h (by injection z with z; simpa using z)
    rw [beq_eq_false_iff_ne.mpr h, beq_eq_false_iff_ne.mpr h2]
mutual
theorem D.eqv_eq : ∀ (d e : D) (n m : Nat), d.ok n = true → e.ok m = true → PyData.eqv d.py e.py = D.eq d e
  | .lst xs, .lst ys, n + 1, m + 1, h, g => by
    simp only [D.py, PyData.eqv, D.eq]
    exact D.eqvL_eq xs ys n m (by simpa [D.ok] using h) (by simpa [D.ok] using g)
  | .tup xs, .tup ys, n + 1, m + 1, h, g => by
    simp only [D.py, PyData.eqv, D.eq]
    exact D.eqvL_eq xs ys n m (by simpa [D.ok] using h) (by simpa [D.ok] using g)
  | .str x, .str y, _, _, _, _ => by simp only [D.py, PyData.eqv, D.eq, str_beq]
  | .lst _, _, 0, _, h, _ => by simp [D.ok] at h
  | .tup _, _, 0, _, h, _ => by simp [D.ok] at h
  | _, .lst _, _, 0, _, h => by simp [D.ok] at h
  | _, .tup _, _, 0, _, h => by simp [D.ok] at h
  | .scr _, _, _, _, h, _ => by simp [D.ok] at h
  | .box, _, _, _, h, _ => by simp [D.ok] at h
  | .ref _, _, _, _, h, _ => by simp [D.ok] at h
  | .cls _, _, _, _, h, _ => by simp [D.ok] at h
  | .exc _ _ _, _, _, _, h, _ => by simp [D.ok] at h
  | .dct _ _, _, _, _, h, _ => by simp [D.ok] at h
  | .dck _ _, _, _, _, h, _ => by simp [D.ok] at h
  | .dcn _ _, _, _, _, h, _ => by simp [D.ok] at h
  | _, .scr _, _, _, _, h => by simp [D.ok] at h
  | _, .box, _, _, _, h => by simp [D.ok] at h
  | _, .ref _, _, _, _, h => by simp [D.ok] at h
  | _, .cls _, _, _, _, h => by simp [D.ok] at h
  | _, .exc _ _ _, _, _, _, h => by simp [D.ok] at h
  | _, .dct _ _, _, _, _, h => by simp [D.ok] at h
  | _, .dck _ _, _, _, _, h => by simp [D.ok] at h
  | _, .dcn _ _, _, _, _, h => by simp [D.ok] at h
  | .non, .non, _, _, _, _ => by simp only [D.py, PyData.eqv, D.eq]
  | .non, .bl _, _, _, _, _ => by simp only [D.py, PyData.eqv, D.eq]
  | .non, .int _, _, _, _, _ => by simp only [D.py, PyData.eqv, D.eq]
  | .non, .str _, _, _, _, _ => by simp only [D.py, PyData.eqv, D.eq]
  | .non, .lst _, _, _ + 1, _, _ => by simp only [D.py, PyData.eqv, D.eq]
  | .non, .tup _, _, _ + 1, _, _ => by simp only [D.py, PyData.eqv, D.eq]
  | .bl _, .non, _, _, _, _ => by simp only [D.py, PyData.eqv, D.eq]
  | .bl _, .bl _, _, _, _, _ => by simp only [D.py, PyData.eqv, D.eq]
  | .bl _, .int _, _, _, _, _ => by simp only [D.py, PyData.eqv, D.eq]
  | .bl _, .str _, _, _, _, _ => by simp only [D.py, PyData.eqv, D.eq]
  | .bl _, .lst _, _, _ + 1, _, _ => by simp only [D.py, PyData.eqv, D.eq]
  | .bl _, .tup _, _, _ + 1, _, _ => by simp only [D.py, PyData.eqv, D.eq]
  | .int _, .non, _, _, _, _ => by simp only [D.py, PyData.eqv, D.eq]
  | .int _, .bl _, _, _, _, _ => by simp only [D.py, PyData.eqv, D.eq]
  | .int _, .int _, _, _, _, _ => by simp only [D.py, PyData.eqv, D.eq]
  | .int _, .str _, _, _, _, _ => by simp only [D.py, PyData.eqv, D.eq]
  | .int _, .lst _, _, _ + 1, _, _ => by simp only [D.py, PyData.eqv, D.eq]
  | .int _, .tup _, _, _ + 1, _, _ => by simp only [D.py, PyData.eqv, D.eq]
  | .str _, .non, _, _, _, _ => by simp only [D.py, PyData.eqv, D.eq]
  | .str _, .bl _, _, _, _, _ => by simp only [D.py, PyData.eqv, D.eq]
  | .str _, .int _, _, _, _, _ => by simp only [D.py, PyData.eqv, D.eq]
  | .str _, .lst _, _, _ + 1, _, _ => by simp only [D.py, PyData.eqv, D.eq]
  | .str _, .tup _, _, _ + 1, _, _ => by simp only [D.py, PyData.eqv, D.eq]
  | .lst _, .non, _ + 1, _, _, _ => by simp only [D.py, PyData.eqv, D.eq]
  | .lst _, .bl _, _ + 1, _, _, _ => by simp only [D.py, PyData.eqv, D.eq]
  | .lst _, .int _, _ + 1, _, _, _ => by simp only [D.py, PyData.eqv, D.eq]
  | .lst _, .str _, _ + 1, _, _, _ => by simp only [D.py, PyData.eqv, D.eq]
  | .lst _, .tup _, _ + 1, _ + 1, _, _ => by simp only [D.py, PyData.eqv, D.eq]
  | .tup _, .non, _ + 1, _, _, _ => by simp only [D.py, PyData.eqv, D.eq]
  | .tup _, .bl _, _ + 1, _, _, _ => by simp only [D.py, PyData.eqv, D.eq]
  | .tup _, .int _, _ + 1, _, _, _ => by simp only [D.py, PyData.eqv, D.eq]
  | .tup _, .str _, _ + 1, _, _, _ => by simp only [D.py, PyData.eqv, D.eq]
  | .tup _, .lst _, _ + 1, _ + 1, _, _ => by simp only [D.py, PyData.eqv, D.eq]
theorem D.eqvL_eq : ∀ (xs ys : List D) (n m : Nat), D.okL xs n = true → D.okL ys m = true → PyData.eqvAll (D.pyL xs) (D.pyL ys) = D.eqL xs ys
  | [], [], _, _, _, _ => by simp only [D.pyL, PyData.eqvAll, D.eqL]
  | [], _ :: _, _, _, _, _ => by simp only [D.pyL, PyData.eqvAll, D.eqL]
  | _ :: _, [], _, _, _, _ => by simp only [D.pyL, PyData.eqvAll, D.eqL]
  | x :: xs, y :: ys, n, m, h, g => by
    simp only [D.okL, Bool.and_eq_true] at h g
    simp only [D.pyL, PyData.eqvAll, D.eqL]
    rw [D.eqv_eq x y n m h.1 g.1, D.eqvL_eq xs ys n m h.2 g.2]
end
mutual
theorem D.ok_depth : ∀ (d : D) (n : Nat), d.ok n = true → d.py.depth ≤ n
  | .lst xs, n + 1, h => by
    simp only [D.py, PyData.depth]
    have := D.okL_depth xs n (by simpa [D.ok] using h)
    omega
  | .tup xs, n + 1, h => by
    simp only [D.py, PyData.depth]
    have := D.okL_depth xs n (by simpa [D.ok] using h)
    omega
  | .lst _, 0, h => by simp [D.ok] at h
  | .tup _, 0, h => by simp [D.ok] at h
  | .non, _, _ => by simp [D.py, PyData.depth]
  | .bl _, _, _ => by simp [D.py, PyData.depth]
  | .int _, _, _ => by simp [D.py, PyData.depth]
  | .str _, _, _ => by simp [D.py, PyData.depth]
  | .scr _, _, _ => by simp [D.py, PyData.depth]
  | .box, _, _ => by simp [D.py, PyData.depth]
  | .ref _, _, _ => by simp [D.py, PyData.depth]
  | .cls _, _, _ => by simp [D.py, PyData.depth]
  | .exc _ _ _, _, _ => by simp [D.py, PyData.depth]
  | .dct _ _, _, _ => by simp [D.py, PyData.depth]
  | .dck _ _, _, _ => by simp [D.py, PyData.depth]
  | .dcn _ _, _, _ => by simp [D.py, PyData.depth]
theorem D.okL_depth : ∀ (xs : List D) (n : Nat), D.okL xs n = true → PyData.depthAll (D.pyL xs) ≤ n
  | [], _, _ => by simp [D.pyL, PyData.depthAll]
  | x :: xs, n, h => by
    simp only [D.okL, Bool.and_eq_true] at h
    simp only [D.pyL, PyData.depthAll]
    have h1 := D.ok_depth x n h.1
    have h2 := D.okL_depth xs n h.2
    omega
end
theorem strOk_of {l : List Nat} (h : SOk l) : PyData.strOk ⟨l.toArray⟩ = true := by
  unfold PyData.strOk
  simp only [List.all_toArray, List.all_eq_true, decide_eq_true_eq]
  exact h.2
section
variable {K : PySem.W.Frag} {cl : Cl} {κ : Ka} {H : Hp}
mutual
theorem Rep.dp : ∀ {d : D} {v : V} {n : Nat}, Rep K cl κ H v d → d.ok n = true → Dp K H v d.py ∧ d.py.canLay0 = true
  | .non, _, _, h, _ => by cases h; exact ⟨.non, rfl⟩
  | .bl b, _, _, h, _ => by cases h; exact ⟨.bl b, rfl⟩
  | .int i, _, _, h, _ => by cases h; exact ⟨.int i, rfl⟩
  | .str l, _, _, h, _ => by
    obtain ⟨rfl, hl⟩ := h.strE
    exact ⟨.str _, by simp only [D.py, PyData.canLay0]; exact strOk_of hl⟩
  | .lst ds, _, n + 1, h, ok => by
    cases h with
    | lst h1 h2 h3 h4 =>
      obtain ⟨g1, g2⟩ := RepL.dp (n := n) h4 (by simpa [D.ok] using ok)
      exact ⟨.lst (SqL.of h2) g1, by simp only [D.py, PyData.canLay0]; exact g2⟩
  | .tup ds, _, n + 1, h, ok => by
    obtain ⟨a, vs, rfl, h2, h3, h4⟩ := h.sqT
    obtain ⟨g1, g2⟩ := RepL.dp (n := n) h4 (by simpa [D.ok] using ok)
    exact ⟨.tup h2 g1, by simp only [D.py, PyData.canLay0]; exact g2⟩
  | .lst _, _, 0, _, ok => by simp [D.ok] at ok
  | .tup _, _, 0, _, ok => by simp [D.ok] at ok
  | .scr _, _, _, _, ok => by simp [D.ok] at ok
  | .box, _, _, _, ok => by simp [D.ok] at ok
  | .ref _, _, _, _, ok => by simp [D.ok] at ok
  | .cls _, _, _, _, ok => by simp [D.ok] at ok
  | .exc _ _ _, _, _, _, ok => by simp [D.ok] at ok
  | .dct _ _, _, _, _, ok => by simp [D.ok] at ok
  | .dck _ _, _, _, _, ok => by simp [D.ok] at ok
  | .dcn _ _, _, _, _, ok => by simp [D.ok] at ok
theorem RepL.dp : ∀ {ds : List D} {vs : List V} {n : Nat}, RepL K cl κ H vs ds → D.okL ds n = true → DpAll K H vs (D.pyL ds) ∧ PyData.canLayAll0 (D.pyL ds) = true
  | [], _, _, h, _ => by cases h; exact ⟨.nil, rfl⟩
  | d :: ds, _, n, h, ok => by
    cases h with
    | cons h1 h2 =>
      simp only [D.okL, Bool.and_eq_true] at ok
      obtain ⟨a1, a2⟩ := Rep.dp h1 ok.1
      obtain ⟨b1, b2⟩ := RepL.dp h2 ok.2
      exact ⟨.cons a1 b1, by simp only [D.pyL, PyData.canLayAll0]; rw [a2, b2]; rfl⟩
end
end
section
variable {Γ : Gm} {κ κ' : Ka} {H H' : Hp} {env env' : En} {σ : Sl} {v : V} {st : Sto}
theorem RepT.dp {d : D} (h : RepT Γ κ H v d) (ok : d.ok 64 = true) : Dp Γ.K H v d.py ∧ SeqAt.shaped d.py = true := by
  have key : Dp Γ.K H v d.py ∧ d.py.canLay0 = true := by
    cases d with
    | lst ds =>
      obtain ⟨a, vs, rfl, h1, h2, h3⟩ := h
      obtain ⟨g1, g2⟩ := RepL.dp (n := 63) h3 (by simpa [D.ok] using ok)
      exact ⟨.lst (SqL.of h1) g1, by simp only [D.py, PyData.canLay0]; exact g2⟩
    | _ => exact Rep.dp h ok
  refine ⟨key.1, ?_⟩
  unfold SeqAt.shaped
  rw [key.2, decide_eq_true (D.ok_depth d 64 ok)]
  rfl
def pEq (d e : D) (Q : R → Prop) : Prop := d.ok 64 = true ∧ e.ok 64 = true ∧ Q (.d (.bl (D.eq d e)))
def pNe (d e : D) (Q : R → Prop) : Prop := d.ok 64 = true ∧ e.ok 64 = true ∧ Q (.d (.bl (!D.eq d e)))
theorem ref_eq : OpRef rEqD pEq := by
  intro Γ σ κ H env v u d e Q Q' I hd he q k
  obtain ⟨a1, a2⟩ := hd.dp q.1
  obtain ⟨b1, b2⟩ := he.dp q.2.1
  refine ⟨_, _, a1, b1, a2, b2, ?_⟩
  rw [D.eqv_eq d e 64 64 q.1 q.2.1]
  exact k _ κ H (.d (.bl (D.eq d e))) (.refl ..) I (.bl _) q.2.2
theorem ref_ne : OpRef rNeD pNe := by
  intro Γ σ κ H env v u d e Q Q' I hd he q k
  obtain ⟨a1, a2⟩ := hd.dp q.1
  obtain ⟨b1, b2⟩ := he.dp q.2.1
  refine ⟨_, _, a1, b1, a2, b2, ?_⟩
  rw [D.eqv_eq d e 64 64 q.1 q.2.1]
  exact k _ κ H (.d (.bl (!D.eq d e))) (.refl ..) I (.bl _) q.2.2
variable {Y : Fam} {a b : Expr} {ta tb : PTE} {pos : Pos}
/-- room for built-in work -/
abbrev Hu (Y : Fam) : Prop := ∀ i, (Y.X i).A.units + 65 < cLine
theorem ve_eq (hu : Hu Y) (ha : VE Y a ta) (hb : VE Y b tb) : VE Y (.Compare a [.Eq] [b] pos) (t2 ta tb pEq) := ve_cmp (fun i => op_eqD (by have := hu i; omega)) ref_eq ha hb (nomark _)
theorem ve_ne (hu : Hu Y) (ha : VE Y a ta) (hb : VE Y b tb) : VE Y (.Compare a [.NotEq] [b] pos) (t2 ta tb pNe) := ve_cmp (fun i => op_neD (by have := hu i; omega)) ref_ne ha hb (nomark _)
theorem vt_eq (hu : Hu Y) (ha : VE Y a ta) (hb : VE Y b tb) : VT Y (.Compare a [.Eq] [b] pos) (tB (t2 ta tb pEq)) := vt_cmp (fun i => op_eqD (by have := hu i; omega)) ref_eq ha hb (nomark _)
theorem vt_ne (hu : Hu Y) (ha : VE Y a ta) (hb : VE Y b tb) : VT Y (.Compare a [.NotEq] [b] pos) (tB (t2 ta tb pNe)) := vt_cmp (fun i => op_neD (by have := hu i; omega)) ref_ne ha hb (nomark _)
/-- <, of ints and of texts -/
def pLt (d e : D) (Q : R → Prop) : Prop := match d, e with
  | .int i, .int j => Q (.d (.bl (decide (i < j))))
  | .str i, .str j => Q (.d (.bl (decide (i < j))))
  | _, _ => False
def pLe (d e : D) (Q : R → Prop) : Prop := match d, e with
  | .int i, .int j => Q (.d (.bl (decide (i ≤ j))))
  | .str i, .str j => Q (.d (.bl (!decide (j < i))))
  | _, _ => False
def pGt (d e : D) (Q : R → Prop) : Prop := match d, e with
  | .int i, .int j => Q (.d (.bl (decide (j < i))))
  | .str i, .str j => Q (.d (.bl (decide (j < i))))
  | _, _ => False
def pGe (d e : D) (Q : R → Prop) : Prop := match d, e with
  | .int i, .int j => Q (.d (.bl (decide (j ≤ i))))
  | .str i, .str j => Q (.d (.bl (!decide (i < j))))
  | _, _ => False
def rS (f : List Nat → List Nat → Bool) : R2 := fun x y H Q => ∃ i j : Str, x = .str i ∧ y = .str j ∧ Q (.bl (f i.cps.toList j.cps.toList)) H
def rOrd (f : Int → Int → Bool) (g : List Nat → List Nat → Bool) : PySem.W.Frag → R2 := fun _ x y H Q => rI0 (fun i j => .bl (f i j)) x y H Q ∨ rS g x y H Q
theorem ref_ord {f : Int → Int → Bool} {g : List Nat → List Nat → Bool} {p : D → D → (R → Prop) → Prop} (h1 : ∀ i j Q, p (.int i) (.int j) Q → Q (.d (.bl (f i j)))) (h2 : ∀ i j Q, p (.str i) (.str j) Q → Q (.d (.bl (g i j))))
    (h3 : ∀ d e Q, p d e Q → (∃ i j, d = .int i ∧ e = .int j) ∨ ∃ i j, d = .str i ∧ e = .str j) : OpRef (rOrd f g) p := by
  intro Γ σ κ H env v u d e Q Q' I hd he q k
  rcases h3 d e Q q with ⟨i, j, rfl, rfl⟩ | ⟨i, j, rfl, rfl⟩
  · cases hd; cases he
    exact .inl ⟨i, j, rfl, rfl, k _ κ H (.d (.bl (f i j))) (.refl ..) I (.bl _) (h1 i j Q q)⟩
  · obtain ⟨rfl, _⟩ := Rep.strE hd
    obtain ⟨rfl, _⟩ := Rep.strE he
    exact .inr ⟨_, _, rfl, rfl, k _ κ H (.d (.bl (g i j))) (.refl ..) I (.bl _) (h2 i j Q q)⟩
theorem ord3 {p : D → D → (R → Prop) → Prop} (h : ∀ d e Q, p d e Q → match d, e with | .int _, .int _ => True | .str _, .str _ => True | _, _ => False) : ∀ d e Q, p d e Q → (∃ i j, d = .int i ∧ e = .int j) ∨ ∃ i j, d = .str i ∧ e = .str j := by
  intro d e Q q
  have := h d e Q q
  cases d <;> cases e <;> first | exact .inl ⟨_, _, rfl, rfl⟩ | exact .inr ⟨_, _, rfl, rfl⟩ | exact False.elim this
theorem ref_lt : OpRef (rOrd (fun i j => decide (i < j)) fun i j => decide (i < j)) pLt := ref_ord (fun _ _ _ q => q) (fun _ _ _ q => q) (ord3 fun d e Q q => by unfold pLt at q; split at q <;> first | trivial | exact q.elim)
theorem ref_gt : OpRef (rOrd (fun i j => decide (j < i)) fun i j => decide (j < i)) pGt := ref_ord (fun _ _ _ q => q) (fun _ _ _ q => q) (ord3 fun d e Q q => by unfold pGt at q; split at q <;> first | trivial | exact q.elim)
theorem ref_ge : OpRef (rOrd (fun i j => decide (j ≤ i)) fun i j => !decide (i < j)) pGe := ref_ord (fun _ _ _ q => q) (fun _ _ _ q => q) (ord3 fun d e Q q => by unfold pGe at q; split at q <;> first | trivial | exact q.elim)
theorem o_lt (X : Cx) : OpR X (compareOp .Lt) (rOrd (fun i j => decide (i < j)) (fun i j => decide (i < j)) X.K) := OpR.or op_lt op_lt_str
theorem o_gt (X : Cx) : OpR X (compareOp .Gt) (rOrd (fun i j => decide (j < i)) (fun i j => decide (j < i)) X.K) := OpR.or op_gt op_gt_str
theorem o_ge (X : Cx) : OpR X (compareOp .GtE) (rOrd (fun i j => decide (j ≤ i)) (fun i j => !decide (i < j)) X.K) := OpR.or op_ge op_ge_str
theorem ve_ge (ha : VE Y a ta) (hb : VE Y b tb) : VE Y (.Compare a [.GtE] [b] pos) (t2 ta tb pGe) := ve_cmp (fun i => o_ge _) ref_ge ha hb (nomark _)
theorem vt_lt (ha : VE Y a ta) (hb : VE Y b tb) : VT Y (.Compare a [.Lt] [b] pos) (tB (t2 ta tb pLt)) := vt_cmp (fun i => o_lt _) ref_lt ha hb (nomark _)
theorem vt_gt (ha : VE Y a ta) (hb : VE Y b tb) : VT Y (.Compare a [.Gt] [b] pos) (tB (t2 ta tb pGt)) := vt_cmp (fun i => o_gt _) ref_gt ha hb (nomark _)
def D.flat : D → Bool
  | .non => true
  | .bl _ => true
  | .int _ => true
  | .str _ => true
  | _ => false
def pIn (neg : Bool) (d e : D) (Q : R → Prop) : Prop := match e with
  | .str l => match d with
    | .str [c] => Q (.d (.bl (if neg then !decide (c ∈ l) else decide (c ∈ l))))
    | _ => False
  | .lst ds => d.ok 64 = true ∧ D.okL ds 63 = true ∧ Q (.d (.bl (if neg then !ds.any (fun z => D.eq z d) else ds.any fun z => D.eq z d)))
  | .tup ds => d.flat = true ∧ ds.all D.flat = true ∧ Q (.d (.bl (if neg then !ds.any (fun z => D.eq z d) else ds.any fun z => D.eq z d)))
  | _ => False
theorem any_eqv {d : D} (hd : d.ok 64 = true) : ∀ {ds : List D}, D.okL ds 63 = true → ((D.pyL ds).any fun z => PyData.eqv z d.py) = ds.any fun z => D.eq z d
  | [], _ => rfl
  | e :: ds, h => by
    simp only [D.okL, Bool.and_eq_true] at h
    simp only [D.pyL, List.any_cons]
    rw [D.eqv_eq e d 63 64 h.1 hd, any_eqv hd h.2]
theorem flat_V {d : D} (h : Rep Γ.K Γ.cls κ H v d) (f : d.flat = true) : flatV v = true := by
  cases d with
  | non => cases h; rfl
  | bl b => cases h; rfl
  | int i => cases h; rfl
  | str s => obtain ⟨rfl, _⟩ := h.strE; rfl
  | _ => cases f
theorem flat_eqV {d e : D} {w u : V} (h : Rep Γ.K Γ.cls κ H w d) (g : Rep Γ.K Γ.cls κ H u e) (f : d.flat = true) (f2 : e.flat = true) : eqV w u = D.eq d e := by
  cases d with
  | non =>
    cases h
    cases e with
    | non => cases g; rfl
    | bl b => cases g; rfl
    | int i => cases g; rfl
    | str s => obtain ⟨rfl, _⟩ := g.strE; rfl
    | _ => cases f2
  | bl b =>
    cases h
    cases e with
    | non => cases g; rfl
    | bl b => cases g; rfl
    | int i => cases g; rfl
    | str s => obtain ⟨rfl, _⟩ := g.strE; rfl
    | _ => cases f2
  | int i =>
    cases h
    cases e with
    | non => cases g; rfl
    | bl b => cases g; rfl
    | int i => cases g; rfl
    | str s => obtain ⟨rfl, _⟩ := g.strE; rfl
    | _ => cases f2
  | str s =>
    obtain ⟨rfl, _⟩ := h.strE
    cases e with
    | non => cases g; rfl
    | bl b => cases g; rfl
    | int i => cases g; rfl
    | str s => obtain ⟨rfl, _⟩ := g.strE; exact str_beq _ _
    | _ => cases f2
  | _ => cases f
theorem flat_all : ∀ {ds : List D} {vs : List V}, RepL Γ.K Γ.cls κ H vs ds → ds.all D.flat = true → vs.all flatV = true
  | [], _, h, _ => by cases h; rfl
  | d :: ds, _, h, f => by
    cases h with
    | cons h1 h2 =>
      rw [List.all_cons, Bool.and_eq_true] at f
      rw [List.all_cons, flat_V h1 f.1, flat_all h2 f.2]
      rfl
theorem flat_in {d : D} (h : Rep Γ.K Γ.cls κ H v d) (f : d.flat = true) : ∀ {ds : List D} {vs : List V}, RepL Γ.K Γ.cls κ H vs ds → ds.all D.flat = true → inV v vs = ds.any fun z => D.eq z d
  | [], _, g, _ => by cases g; rfl
  | e :: ds, _, g, fs => by
    cases g with
    | cons h1 h2 =>
      rw [List.all_cons, Bool.and_eq_true] at fs
      have ih := flat_in h f h2 fs.2
      unfold inV at ih ⊢
      rw [List.any_cons, List.any_cons, flat_eqV h1 h fs.1 f, ih]
def rSign (neg : Bool) : R2 := fun x y H Q => ∃ (c : Nat) (z : Str), x = .str ⟨#[c]⟩ ∧ y = .str z ∧ Q (.bl (if neg then !decide (c ∈ z.cps.toList) else decide (c ∈ z.cps.toList))) H
def rInDn (K : PySem.W.Frag) (neg : Bool) : R2 := fun x y H Q => ∃ d ds, Dp K H x d ∧ Dp K H y (.list ds) ∧ SeqAt.shaped d = true ∧ SeqAt.shaped (.list ds) = true ∧ Q (.bl (if neg then !ds.any (fun z => PyData.eqv z d) else ds.any fun z => PyData.eqv z d)) H
def rInAll (neg : Bool) (K : PySem.W.Frag) : R2 := fun x y H Q => rSign neg x y H Q ∨ rInDn K neg x y H Q ∨ rIn K neg x y H Q
theorem o_in {X : Cx} (hu : X.A.units + 65 < cLine) : OpR X (compareOp .In) (rInAll false X.K) := OpR.or op_in_sign (OpR.or (op_inD hu) op_in_seq)
theorem ref_in {neg : Bool} : OpRef (rInAll neg) (pIn neg) := by
  intro Γ σ κ H env v u d e Q Q' I hd he q k
  cases e with
  | str l =>
    cases d with
    | str s =>
      match s, hd, q with
      | [c], hd, q =>
        obtain ⟨rfl, _⟩ := Rep.strE hd
        obtain ⟨rfl, _⟩ := Rep.strE he
        exact .inl ⟨c, _, rfl, rfl, k _ κ H (.d (.bl _)) (.refl ..) I (.bl _) q⟩
    | _ => exact False.elim q
  | lst ds =>
    obtain ⟨q1, q2, q3⟩ := q
    obtain ⟨a1, a2⟩ := hd.dp q1
    obtain ⟨b1, b2⟩ := he.dp (d := .lst ds) (by simpa [D.ok] using q2)
    refine .inr (.inl ⟨_, _, a1, b1, a2, b2, ?_⟩)
    rw [any_eqv q1 q2]
    exact k _ κ H (.d (.bl _)) (.refl ..) I (.bl _) q3
  | tup ds =>
    obtain ⟨q1, q2, q3⟩ := q
    obtain ⟨a, vs, rfl, h1, h2, h3⟩ := Rep.sqT he
    have hd' : Rep Γ.K Γ.cls κ H v d := by
      cases d with
      | lst _ => cases q1
      | _ => exact hd
    refine .inr (.inr ⟨a, vs, rfl, .inr h1, flat_V hd' q1, flat_all h3 q2, ?_⟩)
    rw [flat_in hd' q1 h3 q2]
    exact k _ κ H (.d (.bl _)) (.refl ..) I (.bl _) q3
  | _ => exact False.elim q
theorem ve_in (hu : Hu Y) (ha : VE Y a ta) (hb : VE Y b tb) (hm : behindInMarks .In b = false := by rfl) : VE Y (.Compare a [.In] [b] pos) (t2 ta tb (pIn false)) := ve_cmp (fun i => o_in (hu i)) ref_in ha hb hm
theorem vt_in (hu : Hu Y) (ha : VE Y a ta) (hb : VE Y b tb) (hm : behindInMarks .In b = false := by rfl) : VT Y (.Compare a [.In] [b] pos) (tB (t2 ta tb (pIn false))) := vt_cmp (fun i => o_in (hu i)) ref_in ha hb hm
def D.isNon : D → Bool
  | .non => true
  | _ => false
def pIsN (neg : Bool) (d e : D) (Q : R → Prop) : Prop := match e with
  | .non => Q (.d (.bl (if neg then !d.isNon else d.isNon)))
  | .bl b => match d with
    | .bl a => Q (.d (.bl (if neg then !decide (a = b) else decide (a = b))))
    | _ => False
  | _ => False
variable {tA tC : PTT} {rest : List Expr}
def tAnd (t u : PTT) : PTT := fun x e Q => t x e fun c e1 => if c = true then u x e1 Q else Q false e1
def tOr (t u : PTT) : PTT := fun x e Q => t x e fun c e1 => if c = true then Q true e1 else u x e1 Q
def tNot (t : PTT) : PTT := fun x e Q => t x e fun c e1 => Q (!c) e1
theorem VW.vt {e : Expr} {t : PTT} (h : VW Y e t) : VT Y e t := by
  obtain ⟨ra, pa, fa⟩ := h.ex
  exact ⟨⟨ra, fun i => (pa i).pt, fa⟩⟩
theorem vw_and1 (ha : VT Y a tA) : VW Y (.BoolOp .And [a] pos) tA := by
  obtain ⟨ra, pa, fa⟩ := ha.ex
  exact ⟨⟨ra, fun i => pw_and1 (pa i), fa⟩⟩
theorem vw_or1 (ha : VT Y a tA) : VW Y (.BoolOp .Or [a] pos) tA := by
  obtain ⟨ra, pa, fa⟩ := ha.ex
  exact ⟨⟨ra, fun i => pw_or1 (pa i), fa⟩⟩
theorem vw_and (ha : VT Y a tA) (hb : VW Y (.BoolOp .And (b :: rest) pos) tC) : VW Y (.BoolOp .And (a :: b :: rest) pos) (tAnd tA tC) := by
  obtain ⟨ra, pa, fa⟩ := ha.ex
  obtain ⟨rb, pb, fb⟩ := hb.ex
  refine ⟨⟨fun E => L2.tAnd (ra E) (rb E), fun i => pw_and (pa i) (pb i), fun Γ σ κ H env Q Q' hK I q k => ?_⟩⟩
  refine fa Γ σ κ H env _ _ hK I q fun c κ1 H1 e1 x1 I1 q1 => ?_
  cases c with
  | true => exact fb Γ σ κ1 H1 e1 Q Q' hK I1 q1 fun b κ2 H2 e2 x2 => k b κ2 H2 e2 (x1.trans x2)
  | false => exact k false κ1 H1 e1 x1 I1 q1
theorem vw_or (ha : VT Y a tA) (hb : VW Y (.BoolOp .Or (b :: rest) pos) tC) : VW Y (.BoolOp .Or (a :: b :: rest) pos) (tOr tA tC) := by
  obtain ⟨ra, pa, fa⟩ := ha.ex
  obtain ⟨rb, pb, fb⟩ := hb.ex
  refine ⟨⟨fun E => L2.tOr (ra E) (rb E), fun i => pw_or (pa i) (pb i), fun Γ σ κ H env Q Q' hK I q k => ?_⟩⟩
  refine fa Γ σ κ H env _ _ hK I q fun c κ1 H1 e1 x1 I1 q1 => ?_
  cases c with
  | false => exact fb Γ σ κ1 H1 e1 Q Q' hK I1 q1 fun b κ2 H2 e2 x2 => k b κ2 H2 e2 (x1.trans x2)
  | true => exact k true κ1 H1 e1 x1 I1 q1
theorem vt_not (ha : VT Y a tA) : VT Y (.UnaryOp .Not a pos) (tNot tA) := by
  obtain ⟨ra, pa, fa⟩ := ha.ex
  exact ⟨⟨fun E => L2.tNot (ra E), fun i => pt_not (pa i), fun Γ σ κ H env Q Q' hK I q k => fa Γ σ κ H env _ _ hK I q fun c κ1 H1 e1 x1 I1 q1 => k _ κ1 H1 e1 x1 I1 q1⟩⟩
/-- as values, all but the last bools -/
def tAndV (ta tb : PTE) : PTE := fun x e Q => ta x e fun r e1 => match rv r e1 with
  | some (.bl c) => if c = true then tb x e1 Q else Q (.d (.bl false)) e1
  | _ => False
def tOrV (ta tb : PTE) : PTE := fun x e Q => ta x e fun r e1 => match rv r e1 with
  | some (.bl c) => if c = true then Q (.d (.bl true)) e1 else tb x e1 Q
  | _ => False
def tNotV (ta : PTE) : PTE := fun x e Q => ta x e fun r e1 => match rv r e1 with
  | some (.bl c) => Q (.d (.bl (!c))) e1
  | _ => False
theorem bl_of {r : R} {P : D → Prop} (I : Rl Γ κ env σ H) (h : RelR Γ κ H env σ v r) {F : Bool → Prop} (q : match rv r env with | some (.bl c) => F c | _ => False) : ∃ c, v = .bl c ∧ F c := by
  cases e1' : rv r env with
  | none => rw [e1'] at q; exact False.elim q
  | some d =>
    rw [e1'] at q
    have rt := rv_ok I h e1'
    cases d with
    | bl b => cases rt; exact ⟨b, rfl, q⟩
    | _ => exact False.elim q
theorem ve_one {op} (ha : VE Y a ta) : VE Y (.BoolOp op [a] pos) ta := by
  obtain ⟨ra, pa, fa⟩ := ha.ex
  exact ⟨⟨ra, fun i => pe_one (pa i), fa⟩⟩
theorem ve_and (ha : VE Y a ta) (hb : VE Y (.BoolOp .And (b :: rest) pos) tb) : VE Y (.BoolOp .And (a :: b :: rest) pos) (tAndV ta tb) := by
  obtain ⟨ra, pa, fa⟩ := ha.ex
  obtain ⟨rb, pb, fb⟩ := hb.ex
  refine ⟨⟨fun E => L2.tAndV (ra E) (rb E), fun i => pe_and (pa i) (pb i), fun Γ σ κ H env Q Q' hK I q k => ?_⟩⟩
  refine fa Γ σ κ H env _ _ hK I q fun v κ1 H1 r1 e1 x1 I1 h1 q1 => ?_
  obtain ⟨c, rfl, q1⟩ := bl_of (P := fun _ => True) I1 h1 q1
  refine ⟨c, rfl, ?_⟩
  cases c with
  | true => exact fb Γ σ κ1 H1 e1 Q Q' hK I1 q1 fun v κ2 H2 r2 e2 x2 => k v κ2 H2 r2 e2 (x1.trans x2)
  | false => exact k _ κ1 H1 (.d (.bl false)) e1 x1 I1 (.bl _) q1
def tIf (t : PTT) (ta tb : PTE) : PTE := fun x e Q => t x e fun c e1 => if c = true then ta x e1 Q else tb x e1 Q
end
end Pu
set_option maxRecDepth 100000
set_option maxHeartbeats 4000000
namespace Pu
open PySem L2
section
variable {Γ : Gm} {κ κ' : Ka} {H H' : Hp} {env env' : En} {σ : Sl} {v : V} {st : Sto} {Y : Fam} {a b e : Expr} {es : List Expr} {ta tb te : PTE} {pos : Pos}
def tNil : PTA := fun _ e Q => Q [] e
def tCons (ta : PTE) (tr : PTA) : PTA := fun x e Q => ta x e fun r e1 => fz r e1 fun d e2 => tr x e2 fun ds e3 => Q (d :: ds) e3
theorem va_nil : VA Y [] tNil := ⟨⟨fun _ => L2.tNil, fun _ => pa_nil, fun Γ σ κ H env Q Q' hK I q k => k [] κ H [] env (.refl ..) I .nil q⟩⟩
theorem va_cons {tr : PTA} (ha : VE Y e ta) (hr : VA Y es tr) (hs : ∀ X : Cx, starEach (e :: es) X.env = (false, eval e X.env) :: starEach es X.env := by intro _; rfl) : VA Y (e :: es) (tCons ta tr) := by
  obtain ⟨ra, pa, fa⟩ := ha.ex
  obtain ⟨rb, pb, fb⟩ := hr.ex
  refine ⟨⟨fun E => L2.tCons (ra E) (rb E), fun i => pa_cons (pa i) (pb i) (hs _), fun Γ σ κ H env Q Q' hK I q k => ?_⟩⟩
  refine fa Γ σ κ H env _ _ hK I q fun v κ1 H1 r1 e1 x1 I1 h1 q1 => ?_
  refine fz_ok I1 h1 q1 fun κ2 d e2 x2 I2 h2 q2 => ?_
  refine fb Γ σ κ2 H1 e2 _ _ hK I2 q2 fun vs κ3 H3 ds e3 x3 I3 h3 q3 => ?_
  exact k (v :: vs) κ3 H3 (d :: ds) e3 ((x1.trans x2).trans x3) I3 (.cons (h2.mono x3) h3) q3
def tTup (t : PTA) : PTE := fun x e Q => t x e fun ds e1 => ds.length ≤ sizeLine ∧ Q (.d (.tup ds)) e1
def tLst (t : PTA) : PTE := fun x e Q => t x e fun ds e1 => ds.length ≤ sizeLine ∧ Q (.own ds) e1
theorem ve_tup {x1} {t : PTA} (h : VA Y es t) : VE Y (.Tuple es x1 pos) (tTup t) := by
  obtain ⟨ra, pa, fa⟩ := h.ex
  refine ⟨⟨fun E => PuE.tTupB (ra E), fun i => PuE.pe_tupB (pa i), fun Γ σ κ H env Q Q' hK I q k => ?_⟩⟩
  refine fa Γ σ κ H env _ _ hK I q fun vs κ1 H1 ds e1 x1 I1 h1 q1 => ⟨by rw [h1.length]; exact q1.1, ?_⟩
  exact new_tupB I1 (by rw [h1.length]; exact q1.1) h1 fun κ' H' p x2 I2 r2 => k _ _ _ (.d (.tup ds)) e1 (x1.trans x2) I2 r2 q1.2
theorem ve_lst {t : PTA} (h : VA Y es t) : VE Y (.List es pos) (tLst t) := by
  obtain ⟨ra, pa, fa⟩ := h.ex
  refine ⟨⟨fun E => L2.tLst (ra E), fun i => pe_lst (pa i), fun Γ σ κ H env Q Q' hK I q k => ?_⟩⟩
  refine fa Γ σ κ H env _ _ hK I q fun vs κ1 H1 ds e1 x1 I1 h1 q1 => ⟨by rw [h1.length]; exact q1.1, fun p hp => ?_⟩
  exact k _ κ1 _ (.own ds) e1 (x1.trans (Ext.upd_new I1.gh hp)) (I1.upd_new hp) (new_lst I1 hp (by rw [h1.length]; exact q1.1) h1) q1.2
abbrev PTR := PX → En → (List R → En → Prop) → Prop
inductive HeldL (Γ : Gm) (κ : Ka) (H : Hp) (σ : Sl) : List V → List R → Prop
  | nil : HeldL Γ κ H σ [] []
  | cons {v : V} {vs : List V} {r : R} {rs : List R} : HeldR Γ κ H σ v r → HeldL Γ κ H σ vs rs → HeldL Γ κ H σ (v :: vs) (r :: rs)
inductive RepTL (Γ : Gm) (κ : Ka) (H : Hp) : List V → List D → Prop
  | nil : RepTL Γ κ H [] []
  | cons {v : V} {vs : List V} {d : D} {ds : List D} : RepT Γ κ H v d → RepTL Γ κ H vs ds → RepTL Γ κ H (v :: vs) (d :: ds)
theorem HeldL.ext : ∀ {rs : List R} {vs : List V}, Ext κ H κ' H' → HeldL Γ κ H σ vs rs → HeldL Γ κ' H' σ vs rs
  | [], _, _, h => by cases h; exact .nil
  | _ :: _, _, e, h => by cases h with | cons h1 h2 => exact .cons (h1.ext e) (HeldL.ext e h2)
structure VR (Y : Fam) (es : List Expr) (t : PTR) : Prop where
  ex : ∃ rd : XK → TA, (∀ i, PA (Y.X i) es (rd (Y.E i))) ∧ ∀ (Γ : Gm) (σ : Sl) (κ : Ka) (H : Hp) (env : En) (Q : List R → En → Prop) (Q' : List V → Hp → Prop), GK Y Γ → Rl Γ κ env σ H → t Γ.x env Q →
    (∀ vs κ' H' rs env', Ext κ H κ' H' → Rl Γ κ' env' σ H' → HeldL Γ κ' H' σ vs rs → Q rs env' → Q' vs H') → rd Γ.E σ H Q'
def rNil : PTR := fun _ e Q => Q [] e
def rCons (ta : PTE) (tr : PTR) : PTR := fun x e Q => ta x e fun r e1 => hold r e1 fun r e2 => tr x e2 fun rs e3 => Q (r :: rs) e3
theorem vr_nil : VR Y [] rNil := ⟨⟨fun _ => L2.tNil, fun _ => pa_nil, fun Γ σ κ H env Q Q' hK I q k => k [] κ H [] env (.refl ..) I .nil q⟩⟩
theorem vr_cons {tr : PTR} (ha : VE Y e ta) (hr : VR Y es tr) (hs : ∀ X : Cx, starEach (e :: es) X.env = (false, eval e X.env) :: starEach es X.env := by intro _; rfl) : VR Y (e :: es) (rCons ta tr) := by
  obtain ⟨ra, pa, fa⟩ := ha.ex
  obtain ⟨rb, pb, fb⟩ := hr.ex
  refine ⟨⟨fun E => L2.tCons (ra E) (rb E), fun i => pa_cons (pa i) (pb i) (hs _), fun Γ σ κ H env Q Q' hK I q k => ?_⟩⟩
  refine fa Γ σ κ H env _ _ hK I q fun v κ1 H1 r1 e1 x1 I1 h1 q1 => ?_
  refine hold_ok I1 h1 q1 fun κ2 r2 x2 I2 h2 q2 => ?_
  refine fb Γ σ κ2 H1 e1 _ _ hK I2 q2 fun vs κ3 H3 rs e3 x3 I3 h3 q3 => ?_
  exact k (v :: vs) κ3 H3 (r2 :: rs) e3 ((x1.trans x2).trans x3) I3 (.cons (h2.ext x3) h3) q3
def rvL : List R → En → Option (List D)
  | [], _ => some []
  | r :: rs, e => match rv r e with
    | none => none
    | some d => match rvL rs e with
      | none => none
      | some ds => some (d :: ds)
theorem rvL_ok (I : Rl Γ κ env σ H) : ∀ {rs : List R} {vs : List V} {ds : List D}, HeldL Γ κ H σ vs rs → rvL rs env = some ds → RepTL Γ κ H vs ds
  | [], _, _, h, e => by cases h; cases e; exact .nil
  | r :: rs, _, _, h, e => by
    cases h with
    | cons h1 h2 =>
      unfold rvL at e
      cases e1 : rv r env with
      | none => rw [e1] at e; cases e
      | some d =>
        rw [e1] at e
        cases e2 : rvL rs env with
        | none => simp only [e2] at e; cases e
        | some ds =>
          simp only [e2] at e
          cases e
          exact .cons (rv_ok I h1.rel e1) (rvL_ok I h2 e2)
def CallRef (r : PySem.W.Frag → List V → Hp → VK → Prop) (p : List D → (R → Prop) → Prop) : Prop :=
  ∀ (Γ : Gm) (σ : Sl) (κ : Ka) (H : Hp) (env : En) (vs : List V) (ds : List D) (Q : R → Prop) (Q' : VK), Rl Γ κ env σ H → RepTL Γ κ H vs ds → p ds Q →
    (∀ v' κ' H' r, Ext κ H κ' H' → Rl Γ κ' env σ H' → RelR Γ κ' H' env σ v' r → Q r → Q' v' H') → r Γ.K vs H Q'
def tCallP (p : List D → (R → Prop) → Prop) (t : PTR) : PTE := fun x e Q => t x e fun rs e1 => match rvL rs e1 with
  | some ds => p ds (fun r => Q r e1)
  | none => False
theorem callP {r : PySem.W.Frag → List V → Hp → VK → Prop} {p : List D → (R → Prop) → Prop} {t : PTR} {rd : XK → TA} (hr : CallRef r p)
    (f : ∀ (Γ : Gm) (σ : Sl) (κ : Ka) (H : Hp) (env : En) (Q : List R → En → Prop) (Q' : List V → Hp → Prop), GK Y Γ → Rl Γ κ env σ H → t Γ.x env Q →
    (∀ vs κ' H' rs env', Ext κ H κ' H' → Rl Γ κ' env' σ H' → HeldL Γ κ' H' σ vs rs → Q rs env' → Q' vs H') → rd Γ.E σ H Q')
    {Q : R → En → Prop} {Q' : VK} (hK : GK Y Γ) (I : Rl Γ κ env σ H) (q : tCallP p t Γ.x env Q)
    (k : ∀ v κ' H' r env', Ext κ H κ' H' → Rl Γ κ' env' σ H' → RelR Γ κ' H' env' σ v r → Q r env' → Q' v H') : tCB (r Y.K) (rd Γ.E) σ H Q' := by
  refine f Γ σ κ H env _ _ hK I q fun vs κ1 H1 rs e1 x1 I1 h1 q1 => ?_
  cases e : rvL rs e1 with
  | none => rw [e] at q1; exact False.elim q1
  | some ds =>
    rw [e] at q1
    have := hr Γ σ κ1 H1 e1 vs ds _ Q' I1 (rvL_ok I1 h1 e) q1 fun v' κ' H' r x I' h' q' => k v' κ' H' r e1 (x1.trans x) I' h' q'
    rw [hK.k] at this
    exact this
theorem ve_callB {x : Str} {id : String} {p' : Pos} {r : PySem.W.Frag → List V → Hp → VK → Prop} {p : List D → (R → Prop) → Prop} {t : PTR} (hc : ∀ i, CallR (Y.X i) (.builtin id) (r (Y.X i).K)) (hr : CallRef r p) (hm : ∀ i, (Y.X i).mg x = none) (ha : VR Y (e :: es) t)
    (hg : ∀ i, Gl (Y.X i) x := by intro _; rfl) (hv : bootBuiltins x = some (.builtin id) := by decide +kernel) (hn : x ≠ "__name__" := by decide) (hdb : (x == ("__debug__" : Str)) = false := by decide)
    (he : ∀ X : Cx, starEach (e :: es) X.env = (false, eval e X.env) :: starEach es X.env := by intro _; rfl) (hpl : ∀ X : Cx, (backTo pos (starEach es X.env)).any (·.1) = false := by intro _; rfl) : VE Y (.Call (.Name x p') (e :: es) [] pos) (tCallP p t) := by
  obtain ⟨ra, pa, fa⟩ := ha.ex
  exact ⟨⟨fun E => tCB (r Y.K) (ra E), fun i => pe_callB (by have := hc i; rw [Y.hK i] at this; exact this) (hg i) (hm i) hv (pa i) hn hdb (he _) (hpl _), fun Γ σ κ H env Q Q' hK I q k => callP hr fa hK I q k⟩⟩
theorem ve_callTy {x : Str} {T : String} {p' : Pos} {r : PySem.W.Frag → List V → Hp → VK → Prop} {p : List D → (R → Prop) → Prop} {t : PTR} (hc : ∀ i, CallR (Y.X i) (.type T) (r (Y.X i).K)) (hr : CallRef r p) (hm : ∀ i, (Y.X i).mg x = none) (ha : VR Y (e :: es) t)
    (hg : ∀ i, Gl (Y.X i) x := by intro _; rfl) (hv : bootBuiltins x = some (.type T) := by decide +kernel) (hn : x ≠ "__name__" := by decide) (hdb : (x == ("__debug__" : Str)) = false := by decide)
    (he : ∀ X : Cx, starEach (e :: es) X.env = (false, eval e X.env) :: starEach es X.env := by intro _; rfl) (hpl : ∀ X : Cx, (backTo pos (starEach es X.env)).any (·.1) = false := by intro _; rfl) : VE Y (.Call (.Name x p') (e :: es) [] pos) (tCallP p t) := by
  obtain ⟨ra, pa, fa⟩ := ha.ex
  exact ⟨⟨fun E => tCB (r Y.K) (ra E), fun i => pe_callTy (by have := hc i; rw [Y.hK i] at this; exact this) (hg i) (hm i) hv (pa i) hn hdb (he _) (hpl _), fun Γ σ κ H env Q Q' hK I q k => callP hr fa hK I q k⟩⟩
/-- len -/
def pLen : List D → (R → Prop) → Prop
  | [.str s], Q => Q (.d (.int s.length))
  | [.lst ds], Q => Q (.d (.int ds.length))
  | [.tup ds], Q => Q (.d (.int ds.length))
  | [.scr n], Q => Q (.d (.int n))
  | _, _ => False
def rLen (K : PySem.W.Frag) : List V → Hp → VK → Prop := fun xs H Q => ∃ x n, xs = [x] ∧ LenV K x H n ∧ Q (.int n) H
theorem lenL {K : PySem.W.Frag} {a : Addr} {vs : List V} (h : SqL K H a vs) : LenV K (.ref a) H vs.length := by
  unfold LenV
  first | exact .inl ⟨vs, h, rfl⟩ | exact ⟨vs, .inl h, rfl⟩
theorem ref_len : CallRef rLen pLen := by
  intro Γ σ κ H env vs ds Q Q' I h q k
  match ds, vs, h, q with
  | [.str s], _, .cons h .nil, q =>
    obtain ⟨rfl, h1⟩ := Rep.strE h
    refine ⟨_, s.length, rfl, ?_, k _ κ H (.d (.int s.length)) (.refl ..) I (.int _) q⟩
    show _ ≤ sizeLine ∧ _
    rw [str_len]
    exact ⟨h1.1, rfl⟩
  | [.lst ds], _, .cons h .nil, q =>
    obtain ⟨a, ws, rfl, h1, h2, h3⟩ := h
    refine ⟨_, ws.length, rfl, lenL (SqL.of h1), ?_⟩
    rw [h3.length]
    exact k _ κ H (.d (.int ds.length)) (.refl ..) I (.int _) q
  | [.tup ds], _, .cons h .nil, q =>
    obtain ⟨a, ws, rfl, h1, h2, h3⟩ := Rep.sqT h
    refine ⟨_, ws.length, rfl, .inr ⟨ws, h1, rfl⟩, ?_⟩
    rw [h3.length]
    exact k _ κ H (.d (.int ds.length)) (.refl ..) I (.int _) q
  | [.scr n], _, .cons h .nil, q =>
    cases h with
    | @scr a ns _ h1 hn h2 =>
      subst hn
      refine ⟨_, ns.length, rfl, ?_, k _ κ H (.d (.int (ns.length : Nat))) (.refl ..) I (.int _) q⟩
      have := lenL (H := H) (K := Γ.K) (a := a) (vs := ns.map V.int) (by
        rcases h1 with ⟨_, h1⟩ | h1
        · exact .inl h1
        · exact .inr h1)
      rw [List.length_map] at this
      exact this
theorem ve_len {p' : Pos} {t : PTR} (hm : ∀ i, (Y.X i).mg "len" = none) (ha : VR Y [e] t) (hg : ∀ i, Gl (Y.X i) "len" := by intro _; rfl) (he : ∀ X : Cx, starEach [e] X.env = (false, eval e X.env) :: starEach [] X.env := by intro _; rfl) : VE Y (.Call (.Name "len" p') [e] [] pos) (tCallP pLen t) :=
  ve_callB (r := rLen) (fun _ => call_len) ref_len hm ha hg (he := he)
def pIx (d e : D) (Q : R → Prop) : Prop := match d, e with
  | .lst ds, .int i => match atI ds i with | some y => Q (.d y) | none => False
  | .tup ds, .int i => match atI ds i with | some y => Q (.d y) | none => False
  | .str s, .int i => match atI s i with | some c => Q (.d (.str [c])) | none => False
  | .scr n, .int i => (0 ≤ i ∧ i < n) ∧ ∀ z, Q (.d (.int z))
  | .box, .int i => (i = 0 ∨ i = 1) ∧ ∀ z, Q (.d (.int z))
  | _, _ => False
theorem atI_rep {ds : List D} {vs : List V} {i : Int} {d : D} (h : RepL Γ.K Γ.cls κ H vs ds) (e : atI ds i = some d) : ∃ v, atI vs i = some v ∧ Rep Γ.K Γ.cls κ H v d := by
  unfold atI at e ⊢
  rw [h.length]
  cases q : ixN ds.length i with
  | none => rw [q] at e; cases e
  | some j =>
    rw [q] at e
    obtain ⟨v, e1, r⟩ := h.get (i := j) e
    exact ⟨v, e1, r⟩
theorem SOk.one {s : List Nat} {c : Nat} (h : SOk s) (hc : c ∈ s) : SOk [c] := ⟨by show 1 ≤ sizeLine; decide, fun d hd => by
  have : d = c := by simpa using hd
  rw [this]; exact h.2 c hc⟩
theorem atI_mem {α : Type} {xs : List α} {i : Int} {x : α} (e : atI xs i = some x) : x ∈ xs := by
  unfold atI at e
  cases q : ixN xs.length i with
  | none => rw [q] at e; cases e
  | some j => rw [q] at e; exact List.mem_of_getElem? e
theorem ref_ix : OpRef rIx pIx := by
  intro Γ σ κ H env v u d e Q Q' I hd he q k
  cases e with
  | int i =>
    cases he
    cases d with
    | lst ds =>
      obtain ⟨a, vs, rfl, h1, h2, h3⟩ := hd
      unfold pIx at q
      simp only at q
      cases qe : atI ds i with
      | none => rw [qe] at q; exact False.elim q
      | some y =>
        rw [qe] at q
        obtain ⟨w, e1, r1⟩ := atI_rep h3 qe
        exact .inl ⟨a, vs, i, w, rfl, rfl, SqL.of h1, e1, k w κ H (.d y) (.refl ..) I r1 q⟩
    | tup ds =>
      obtain ⟨a, vs, rfl, h1, h2, h3⟩ := Rep.sqT hd
      unfold pIx at q
      simp only at q
      cases qe : atI ds i with
      | none => rw [qe] at q; exact False.elim q
      | some y =>
        rw [qe] at q
        obtain ⟨w, e1, r1⟩ := atI_rep h3 qe
        exact .inr (.inl ⟨a, vs, i, w, rfl, rfl, h1, e1, k w κ H (.d y) (.refl ..) I r1 q⟩)
    | str s =>
      obtain ⟨rfl, hs⟩ := Rep.strE hd
      unfold pIx at q
      simp only at q
      cases qe : atI s i with
      | none => rw [qe] at q; exact False.elim q
      | some c =>
        rw [qe] at q
        exact .inr (.inr ⟨_, i, c, rfl, rfl, by rw [str_len]; exact hs.1, qe, k _ κ H (.d (.str [c])) (.refl ..) I (.str _ (hs.one (atI_mem qe))) q⟩)
    | scr n =>
      cases hd with
      | @scr a ns _ h1 hn h2 =>
        subst hn
        obtain ⟨⟨i0, i1⟩, q⟩ := q
        obtain ⟨j, rfl⟩ : ∃ j : Nat, i = (j : Int) := ⟨i.toNat, by omega⟩
        have hj : j < ns.length := by omega
        refine .inl ⟨a, ns.map V.int, (j : Int), .int ns[j], rfl, rfl, ?_, atI_nat (by rw [List.getElem?_map, List.getElem?_eq_getElem hj]; rfl), k _ κ H (.d (.int ns[j])) (.refl ..) I (.int _) (q _)⟩
        rcases h1 with ⟨_, h1⟩ | h1
        · exact .inl h1
        · exact .inr h1
    | box =>
      cases hd with
      | @box a hk =>
        obtain ⟨x, y, hx⟩ := I.gh.box a hk
        obtain ⟨hi, q⟩ := q
        rcases hi with rfl | rfl
        · exact .inl ⟨a, _, 0, .int x, rfl, rfl, SqL.of hx, rfl, k _ κ H (.d (.int x)) (.refl ..) I (.int _) (q _)⟩
        · exact .inl ⟨a, _, 1, .int y, rfl, rfl, SqL.of hx, rfl, k _ κ H (.d (.int y)) (.refl ..) I (.int _) (q _)⟩
    | _ => exact False.elim q
  | _ => cases d <;> exact False.elim q
theorem ve_ix (ha : VE Y a ta) (hb : VE Y b tb) (hs : PlainIx b := by exact fun _ _ => rfl) : VE Y (.Subscript a b pos) (t2 ta tb pIx) := by
  obtain ⟨ra, pa, fa⟩ := ha.ex
  obtain ⟨rb, pb, fb⟩ := hb.ex
  refine ⟨⟨fun E => tOp (rIx Y.K) (ra E) (rb E), fun i => pe_ix (by have := ix_seq (X := Y.X i); rw [Y.hK i] at this; exact this) (pa i) (pb i) hs, fun Γ σ κ H env Q Q' hK I q k => ?_⟩⟩
  exact two_ref (r := rIx) ref_ix fa fb hK I q k
abbrev PTO := PX → En → (Option Int → En → Prop) → Prop
structure VO (Y : Fam) (e : Option Expr) (t : PTO) : Prop where
  ex : ∃ rd : XK → L2.TO, (∀ i, PO (Y.X i) e (rd (Y.E i))) ∧ ∀ (Γ : Gm) (σ : Sl) (κ : Ka) (H : Hp) (env : En) (Q : Option Int → En → Prop) (Q' : Option Int → Hp → Prop), GK Y Γ → Rl Γ κ env σ H → t Γ.x env Q →
    (∀ o κ' H' env', Ext κ H κ' H' → Rl Γ κ' env' σ H' → Q o env' → Q' o H') → rd Γ.E σ H Q'
def oNone : PTO := fun _ e Q => Q none e
def oSome (t : PTE) : PTO := fun x e Q => t x e fun r e1 => match rv r e1 with
  | some (.int i) => Q (some i) e1
  | _ => False
theorem vo_none : VO Y none oNone := ⟨⟨fun _ => tNoPart, fun _ => po_none, fun Γ σ κ H env Q Q' hK I q k => k none κ H env (.refl ..) I q⟩⟩
theorem vo_some (h : VE Y e te) : VO Y (some e) (oSome te) := by
  obtain ⟨ra, pa, fa⟩ := h.ex
  refine ⟨⟨fun E => tPart (ra E), fun i => po_some (pa i), fun Γ σ κ H env Q Q' hK I q k => ?_⟩⟩
  refine fa Γ σ κ H env _ _ hK I q fun v κ1 H1 r1 e1 x1 I1 h1 q1 => ?_
  cases e1' : rv r1 e1 with
  | none => rw [e1'] at q1; exact False.elim q1
  | some d =>
    rw [e1'] at q1
    have rt := rv_ok I1 h1 e1'
    cases d with
    | int i => cases rt; exact ⟨i, rfl, k (some i) κ1 H1 e1 x1 I1 q1⟩
    | _ => exact False.elim q1
/-- a piece of a list -/
def cut {α : Type} (xs : List α) (lo hi : Option Int) : List α := (xs.drop (HT.sIx xs.length 0 lo)).take (HT.sIx xs.length xs.length hi - HT.sIx xs.length 0 lo)
def pSl (d : D) (lo hi : Option Int) (Q : R → Prop) : Prop := match d with
  | .lst ds => Q (.own (cut ds lo hi))
  | .tup ds => Q (.d (.tup (cut ds lo hi)))
  | .str s => Q (.d (.str (cut s lo hi)))
  | .scr n => ∀ ns : List Int, ns.length = (cut (List.range n) lo hi).length → Q (.own (ns.map D.int))
  | _ => False
def tSl (te : PTE) (tl th : PTO) : PTE := fun x e Q => te x e fun r e1 => hold r e1 fun r e1 => tl x e1 fun lo e2 => th x e2 fun hi e3 => match rv r e3 with
  | some d => pSl d lo hi (fun r => Q r e3)
  | none => False
theorem cut_length {α : Type} (xs : List α) (lo hi : Option Int) : (cut xs lo hi).length ≤ xs.length := by
  unfold cut
  rw [List.length_take, List.length_drop]
  omega
theorem cut_mem {α : Type} {xs : List α} {lo hi : Option Int} {x : α} (h : x ∈ cut xs lo hi) : x ∈ xs := by
  unfold cut at h
  exact List.mem_of_mem_drop (List.mem_of_mem_take h)
theorem SOk.cut {s : List Nat} (h : SOk s) (lo hi : Option Int) : SOk (cut s lo hi) := ⟨Nat.le_trans (cut_length ..) h.1, fun c hc => h.2 c (cut_mem hc)⟩
theorem RepL.cut {ds : List D} {vs : List V} (h : RepL Γ.K Γ.cls κ H vs ds) (lo hi : Option Int) : RepL Γ.K Γ.cls κ H (cutV vs lo hi) (cut ds lo hi) := by
  unfold cutV Pu.cut
  rw [h.length]
  exact (h.drop _).take _
def rSlAll (K : PySem.W.Frag) : V → Option Int → Option Int → Hp → VK → Prop := fun x lo hi H Q => rSlL K x lo hi H Q ∨ PuE.rSlTB K x lo hi H Q ∨ rSlS x lo hi H Q
theorem sl_all {X : Cx} : SlR X (rSlAll X.K) := SlR.or sl_list (SlR.or PuE.sl_tupB sl_str)
theorem cut_whole {α : Type} {xs : List α} {lo hi : Option Int} (h : HT.sIx xs.length 0 lo = 0 ∧ HT.sIx xs.length xs.length hi = xs.length) : cut xs lo hi = xs := by
  unfold cut
  rw [h.1, h.2]
  simp
theorem line_eq' : (sizeLine : Nat) = 16777216 := sizeLine_eq
theorem rep_ints : ∀ ns : List Int, RepL Γ.K Γ.cls κ H (ns.map V.int) (ns.map D.int)
  | [] => .nil
  | i :: ns => .cons (.int i) (rep_ints ns)
theorem cutV_map {α : Type} (f : α → V) (xs : List α) (lo hi : Option Int) : cutV (xs.map f) lo hi = (cut xs lo hi).map f := by
  unfold cutV cut
  rw [List.length_map, ← List.map_drop, ← List.map_take]
theorem cut_len_eq {α β : Type} {xs : List α} {ys : List β} (h : xs.length = ys.length) (lo hi : Option Int) : (cut xs lo hi).length = (cut ys lo hi).length := by
  unfold cut
  simp only [List.length_take, List.length_drop, h]
theorem ve_slice {lo hi : Option Expr} {tl th : PTO} {p2 : Pos} (ha : VE Y e te) (hl : VO Y lo tl) (hh : VO Y hi th) : VE Y (.Subscript e (.Slice lo hi none p2) pos) (tSl te tl th) := by
  obtain ⟨ra, pa, fa⟩ := ha.ex
  obtain ⟨rl, pl, fl⟩ := hl.ex
  obtain ⟨rh, ph, fh⟩ := hh.ex
  refine ⟨⟨fun E => L2.tSl (rSlAll Y.K) (ra E) (rl E) (rh E), fun i => pe_slice (by have := sl_all (X := Y.X i); rw [Y.hK i] at this; exact this) (pa i) (pl i) (ph i), fun Γ σ κ H env Q Q' hK I q k => ?_⟩⟩
  refine fa Γ σ κ H env _ _ hK I q fun v κ1 H1 r1 e1 x1 I1 h1 q1 => ?_
  refine hold_ok I1 h1 q1 fun κ2 r2 x2 I2 h2 q2 => ?_
  refine fl Γ σ κ2 H1 e1 _ _ hK I2 q2 fun l κ3 H3 e3 x3 I3 q3 => ?_
  refine fh Γ σ κ3 H3 e3 _ _ hK I3 q3 fun h κ4 H4 e4 x4 I4 q4 => ?_
  have x := ((x1.trans x2).trans x3).trans x4
  have h2' : RelR Γ κ4 H4 e4 σ v r2 := ((h2.ext x3).ext x4).rel
  rw [← hK.k]
  cases e1' : rv r2 e4 with
  | none => rw [e1'] at q4; exact False.elim q4
  | some d =>
    rw [e1'] at q4
    have rt := rv_ok I4 h2' e1'
    cases d with
    | lst ds =>
      obtain ⟨a, vs, rfl, g1, g2, g3⟩ := rt
      refine .inl ⟨a, vs, rfl, SqL.of g1, fun p hp => ?_⟩
      exact k _ κ4 _ (.own (cut ds l h)) e4 (x.trans (Ext.upd_new I4.gh hp)) (I4.upd_new hp) (new_lst I4 hp (Nat.le_trans (cutV_length ..) g2) (g3.cut l h)) q4
    | tup ds =>
      have rt0 : Rep Γ.K Γ.cls κ4 H4 v (.tup ds) := rt
      obtain ⟨a, vs, rfl, g1, g2, g3⟩ := Rep.sqT rt
      refine .inr (.inl ⟨a, vs, rfl, g1, fun hw => ?_, fun hw => ?_⟩)
      · have : cut ds l h = ds := cut_whole (by rw [← g3.length]; exact hw)
        have q4 : Q (.d (.tup (cut ds l h))) e4 := q4
        rw [this] at q4
        exact k _ κ4 H4 (.d (.tup ds)) e4 x I4 rt0 q4
      · exact new_tupB I4 (Nat.le_trans (cutV_length vs l h) g2) (g3.cut l h) fun κ' H' p x5 I5 r5 => k _ _ _ (.d (.tup (cut ds l h))) e4 (x.trans x5) I5 r5 q4
    | scr n =>
      cases rt with
      | @scr a ns _ g1 hn g2 =>
        subst hn
        refine .inl ⟨a, ns.map V.int, rfl, ?_, fun p hp => ?_⟩
        · rcases g1 with ⟨_, g1⟩ | g1
          · exact .inl g1
          · exact .inr g1
        · rw [cutV_map]
          refine k _ κ4 _ (.own ((cut ns l h).map D.int)) e4 (x.trans (Ext.upd_new I4.gh hp)) (I4.upd_new hp) (new_lst I4 hp ?_ (rep_ints _)) (q4 _ (cut_len_eq (by simp) l h))
          rw [List.length_map, line_eq']
          have := cut_length ns l h
          omega
    | str s =>
      obtain ⟨rfl, hs⟩ := Rep.strE rt
      refine .inr (.inr ⟨_, rfl, by rw [str_len]; exact hs.1, ?_⟩)
      have : cutS ⟨s.toArray⟩ l h = ⟨(cut s l h).toArray⟩ := by
        unfold cutS Pu.cut
        rw [str_len]
      rw [this]
      exact k _ κ4 H4 (.d (.str (cut s l h))) e4 x I4 (.str _ (hs.cut l h)) q4
    | _ => exact False.elim q4
def asgR (i : Nat) : R → En → (En → Prop) → Prop
  | .d d, e, Q => Q (e.setC i (.d d))
  | .own ds, e, Q => Q (e.setC i (.own ds))
  | .dK ds, e, Q => Q (e.setC i (.dK ds))
  | .dT ds, e, Q => Q (e.setC i (.dT ds))
  | .nam j, e, Q => fz (.nam j) e fun d e1 => Q (e1.setC i (.d d))
theorem Rl.assign {i : Nat} {c : C} (I : Rl Γ κ env σ H) (hi : i < σ.length) (r : RelS Γ κ H (some (some v)) c) (hn : c.isOwn = true → ∀ j a, v = .ref a → ¬ OwnS env σ j a) : Rl Γ κ (env.setC i c) (σ.set i (some v)) H := by
  have hi' : i < env.sl.length := by rw [← I.len]; exact hi
  have old : ∀ m b, m ≠ i → OwnS (env.setC i c) (σ.set i (some v)) m b → OwnS env σ m b := fun m b hm ⟨z1, c', z2, z3⟩ => by
    have z2 : (env.sl.set i c)[m]? = some c' := z2
    rw [List.getElem?_set_ne (Ne.symm hm)] at z1 z2
    exact ⟨z1, c', z2, z3⟩
  have new : ∀ b, OwnS (env.setC i c) (σ.set i (some v)) i b → c.isOwn = true ∧ v = .ref b := fun b ⟨z1, c', z2, z3⟩ => by
    have z2 : (env.sl.set i c)[i]? = some c' := z2
    rw [List.getElem?_set_self hi] at z1
    rw [List.getElem?_set_self hi'] at z2
    cases z2
    exact ⟨z3, by cases z1; rfl⟩
  refine ⟨by simp [En.setC, I.len], fun j c' ec => ?_, fun j l b o1 o2 => ?_, I.gh⟩
  · have ec : (env.sl.set i c)[j]? = some c' := ec
    by_cases hj : j = i
    · subst hj
      rw [List.getElem?_set_self hi'] at ec
      cases ec
      rw [List.getElem?_set_self hi]
      exact r
    · rw [List.getElem?_set_ne (Ne.symm hj)] at ec ⊢
      exact I.get ec
  · by_cases hj : j = i
    · by_cases hl : l = i
      · exact hj.trans hl.symm
      · subst hj
        obtain ⟨n1, n2⟩ := new b o1
        exact absurd (old l b hl o2) (hn n1 l b n2)
    · by_cases hl : l = i
      · subst hl
        obtain ⟨n1, n2⟩ := new b o2
        exact absurd (old j b hj o1) (hn n1 j b n2)
      · exact I.dist j l b (old j b hj o1) (old l b hl o2)
theorem asg_ok {i : Nat} {r : R} {Q : En → Prop} {P : Prop} (I : Rl Γ κ env σ H) (hi : i < σ.length) (h : RelR Γ κ H env σ v r) (q : asgR i r env Q)
    (k : ∀ κ' env', Ext κ H κ' H → Rl Γ κ' env' (σ.set i (some v)) H → Q env' → P) : P := by
  cases r with
  | d d => exact k κ _ (.refl ..) (I.assign (c := .d d) hi ⟨v, rfl, h⟩ fun z => nomatch z) q
  | own ds =>
    obtain ⟨a, rfl, h1, h2⟩ := h
    exact k κ _ (.refl ..) (I.assign (c := .own ds) hi ⟨a, rfl, h1⟩ fun _ j b e => by cases e; exact h2 j) q
  | dK ds =>
    obtain ⟨a, rfl, h1, h2⟩ := h
    exact k κ _ (.refl ..) (I.assign (c := .dK ds) hi ⟨a, rfl, h1⟩ fun _ j b e => by cases e; exact h2 j) q
  | dT ds =>
    obtain ⟨a, rfl, h1, h2⟩ := h
    exact k κ _ (.refl ..) (I.assign (c := .dT ds) hi ⟨a, rfl, h1⟩ fun _ j b e => by cases e; exact h2 j) q
  | nam j =>
    have q : fz (.nam j) env (fun d e1 => Q (e1.setC i (.d d))) := q
    refine fz_ok I h q fun κ1 d e1 x1 I1 h1 q1 => ?_
    exact k κ1 _ x1 (I1.assign (c := .d d) hi ⟨v, rfl, h1⟩ fun z => nomatch z) q1
abbrev PTG := D → En → (En → Prop) → Prop
abbrev PTGs := List D → En → (En → Prop) → Prop
/-- vs: the slots that may be stored -/
def Off (vs : List Nat) (σ σ' : Sl) : Prop := σ'.length = σ.length ∧ ∀ j, j ∉ vs → σ'[j]? = σ[j]?
theorem Off.refl (vs : List Nat) (σ : Sl) : Off vs σ σ := ⟨rfl, fun _ _ => rfl⟩
theorem Off.trans {vs : List Nat} {σ σ1 σ2 : Sl} (a : Off vs σ σ1) (b : Off vs σ1 σ2) : Off vs σ σ2 := ⟨b.1.trans a.1, fun j h => (b.2 j h).trans (a.2 j h)⟩
theorem Off.mono {vs ws : List Nat} {σ σ' : Sl} (a : Off vs σ σ') (h : ∀ j ∈ vs, j ∈ ws) : Off ws σ σ' := ⟨a.1, fun j hj => a.2 j fun z => hj (h j z)⟩
structure VG (Y : Fam) (tg : Expr) (vs : List Nat) (t : PTG) : Prop where
  ex : ∃ rd : TG, (∀ i, PG (Y.X i) tg rd) ∧ ∀ (Γ : Gm) (σ : Sl) (κ : Ka) (H : Hp) (env : En) (v : V) (d : D) (Q : En → Prop) (Q' : Sl → Hp → Prop), GK Y Γ → Rl Γ κ env σ H → Rep Γ.K Γ.cls κ H v d → t d env Q →
    (∀ σ' env', Off vs σ σ' → Rl Γ κ env' σ' H → Q env' → Q' σ' H) → rd v σ H Q'
structure VGs (Y : Fam) (tg : List Expr) (vs : List Nat) (t : PTGs) : Prop where
  ex : ∃ rd : TGs, (∀ i, PGs (Y.X i) tg rd) ∧ ∀ (Γ : Gm) (σ : Sl) (κ : Ka) (H : Hp) (env : En) (ws : List V) (ds : List D) (Q : En → Prop) (Q' : Sl → Hp → Prop), GK Y Γ → Rl Γ κ env σ H → RepL Γ.K Γ.cls κ H ws ds → t ds env Q →
    (∀ σ' env', Off vs σ σ' → Rl Γ κ env' σ' H → Q env' → Q' σ' H) → rd ws σ H Q'
def gName (i : Nat) : PTG := fun d e Q => i < e.sl.length ∧ Q (e.setC i (.d d))
theorem vg_name {i : Nat} {x : Str} (hN : ∀ j, (Y.X j).N.Nodup) (hi : ∀ j, (Y.X j).N[i]? = some x := by intro _; rfl) (hx : ∀ j, Loc (Y.X j).env.scope x := by first | exact fun _ => Or.inl rfl | exact fun _ => Or.inr rfl)
    (hf : ∀ j, (Y.X j).fn x = true ∨ (Y.X j).env.scope.names.lookup x = some .local := by first | exact fun _ => .inl rfl | exact fun _ => .inr rfl | assumption) : VG Y (.Name x pos) [i] (gName i) := by
  refine ⟨⟨L2.gName i, fun j => pg_name (hN j) (hi j) (hx j) (hf j), fun Γ σ κ H env v d Q Q' hK I r q k => ?_⟩⟩
  have hl : i < σ.length := by rw [I.len]; exact q.1
  refine k _ _ ⟨by simp, fun j hj => List.getElem?_set_ne (fun z => hj (by simp [z]))⟩ (I.assign (c := .d d) hl ⟨v, rfl, r⟩ fun z => nomatch z) q.2
def gNil : PTGs := fun ds e Q => ds = [] ∧ Q e
def gCons (t : PTG) (u : PTGs) : PTGs := fun ds e Q => match ds with
  | d :: r => t d e fun e' => u r e' Q
  | [] => False
theorem vgs_nil : VGs Y [] [] gNil := ⟨⟨L2.gNil, fun _ => pgs_nil, fun Γ σ κ H env ws ds Q Q' hK I r q k => by
  obtain ⟨rfl, q⟩ := q
  cases r
  exact ⟨rfl, k σ env (.refl ..) I q⟩⟩⟩
theorem vgs_cons {vs ws : List Nat} {t : PTG} {u : PTGs} (h1 : VG Y e vs t) (h2 : VGs Y es ws u) (hs : ∀ X : Cx, (assignEach (e :: es) X.env).map (·.2) = assign e X.env :: (assignEach es X.env).map (·.2) := by intro _; rfl) : VGs Y (e :: es) (vs ++ ws) (gCons t u) := by
  obtain ⟨ra, pa, fa⟩ := h1.ex
  obtain ⟨rb, pb, fb⟩ := h2.ex
  refine ⟨⟨L2.gCons ra rb, fun i => pgs_cons (pa i) (pb i) (hs _), fun Γ σ κ H env ys ds Q Q' hK I r q k => ?_⟩⟩
  match ds, ys, r, q with
  | d :: ds, _, .cons (v := v) (vs := ys) r1 r2, q =>
    refine ⟨v, ys, rfl, fa Γ σ κ H env v d _ _ hK I r1 q fun σ1 e1 o1 I1 q1 => ?_⟩
    exact fb Γ σ1 κ H e1 ys ds _ _ hK I1 r2 q1 fun σ2 e2 o2 I2 q2 => k σ2 e2 ((o1.mono fun j h => List.mem_append_left _ h).trans (o2.mono fun j h => List.mem_append_right _ h)) I2 q2
def gTup (n : Nat) (t : PTGs) : PTG := fun d e Q => match d with
  | .tup ds => ds.length = n ∧ t ds e Q
  | _ => False
theorem vg_tup {k : Nat} {vs : List Nat} {n : Nat} {t : PTGs} (h : VGs Y es vs t) (hc : ∀ i, (Y.X i).calm = true := by intro _; rfl) (hn : ∀ X : Cx, (assignEach es X.env).length = n := by intro _; rfl) (hst : ∀ X : Cx, (assignEach es X.env).findIdx? (·.1) = none := by intro _; rfl) : VG Y (.Tuple es k pos) vs (gTup n t) := by
  obtain ⟨ra, pa, fa⟩ := h.ex
  refine ⟨⟨L2.gTup Y.K n ra, fun i => by have := pg_tup (pos := pos) (k := k) (hc i) (pa i) (hn _) (hst _); rw [Y.hK i] at this; exact this, fun Γ σ κ H env v d Q Q' hK I r q k => ?_⟩⟩
  cases d with
  | tup ds =>
    obtain ⟨a, vs, rfl, h1, h2, h3⟩ := r.sqT
    exact ⟨a, vs, rfl, by rw [← hK.k]; exact h1, h3.length.trans q.1, fa Γ σ κ H env vs ds Q Q' hK I h3 q.2 k⟩
  | _ => exact False.elim q
end
end Pu
set_option maxRecDepth 100000
set_option maxHeartbeats 4000000
namespace Pu
open PySem L2
section
variable {Γ : Gm} {κ κ' : Ka} {H H' : Hp} {env env' : En} {σ : Sl} {v : V} {st : Sto} {Y : Fam} {a b e : Expr} {es : List Expr} {ta tb te : PTE} {pos : Pos} {s : Stmt} {ss body : List Stmt} {t u : PTS}
def sNext : PTS := fun _ D e => D.nx e
def sSeq (t u : PTS) : PTS := fun x D e => t x { D with nx := u x D } e
theorem vss_nil : VSs Y [] sNext := ⟨⟨fun _ => tNext, fun _ => pss_nil, fun Γ σ κ H env D D' hK I q l => l.1 σ κ H env (.refl ..) I q⟩⟩
theorem vss_cons (h1 : VS Y s t) (h2 : VSs Y ss u) : VSs Y (s :: ss) (sSeq t u) := by
  obtain ⟨ra, pa, fa⟩ := h1.ex
  obtain ⟨rb, pb, fb⟩ := h2.ex
  refine ⟨⟨fun E => tSeq (ra E) (rb E), fun i => pss_cons (pa i) (pb i), fun Γ σ κ H env D D' hK I q l => ?_⟩⟩
  exact fa Γ σ κ H env { D with nx := u Γ.x D } { D' with nx := rb Γ.E D' } hK I q ⟨fun σ' κ' H' env' x I' q' => fb Γ σ' κ' H' env' D D' hK I' q' (l.ext x), l.2.1, l.2.2.1, l.2.2.2⟩
theorem vss_one (h1 : VS Y s t) : VSs Y [s] t := by
  obtain ⟨ra, pa, fa⟩ := h1.ex
  exact ⟨⟨ra, fun i => pss_one (pa i), fa⟩⟩
def sBreak : PTS := fun _ D e => D.bk e
def sCont : PTS := fun _ D e => D.ct e
def sDrop (te : PTE) : PTS := fun x D e => te x e fun _ e1 => D.nx e1
theorem vs_expr (he : VE Y e te) (hs : ∀ i, swapsWith e none pos.line (Y.X i).env = pure false := by intro _; rfl) : VS Y (.Expr e pos) (sDrop te) := by
  obtain ⟨ra, pa, fa⟩ := he.ex
  refine ⟨⟨fun E => tDrop (ra E), fun i => ps_expr (pa i) (hs i), fun Γ σ κ H env D D' hK I q l => ?_⟩⟩
  exact fa Γ σ κ H env _ _ hK I q fun v κ1 H1 r1 e1 x1 I1 h1 q1 => l.1 σ κ1 H1 e1 x1 I1 q1
/-- what is handed back -/
def retR (D : PEn) : R → En → Prop
  | .d d, e => D.rt (.d d) e
  | .own ds, e => D.rt (.own ds) e
  | .dK ds, e => D.rt (.dK ds) e
  | .dT ds, e => D.rt (.dT ds) e
  | .nam i, e => match e.sl[i]? with
    | some .un => False
    | some c => D.rt c e
    | none => False
def sRet (te : PTE) : PTS := fun x D e => te x e fun r e1 => retR D r e1
theorem vs_ret (he : VE Y e te) : VS Y (.Return (some e) pos) (sRet te) := by
  obtain ⟨ra, pa, fa⟩ := he.ex
  refine ⟨⟨fun E => tRet (ra E), fun i => ps_ret (pa i), fun Γ σ κ H env D D' hK I q l => ?_⟩⟩
  refine fa Γ σ κ H env _ _ hK I q fun v κ1 H1 r1 e1 x1 I1 h1 q1 => ?_
  cases r1 with
  | d d => exact l.2.1 v κ1 H1 (.d d) e1 x1 I1.gh h1 q1
  | own ds => obtain ⟨a, rfl, h1, _⟩ := h1; exact l.2.1 _ κ1 H1 (.own ds) e1 x1 I1.gh ⟨a, rfl, h1⟩ q1
  | dK ds => obtain ⟨a, rfl, h1, _⟩ := h1; exact l.2.1 _ κ1 H1 (.dK ds) e1 x1 I1.gh ⟨a, rfl, h1⟩ q1
  | dT ds => obtain ⟨a, rfl, h1, _⟩ := h1; exact l.2.1 _ κ1 H1 (.dT ds) e1 x1 I1.gh ⟨a, rfl, h1⟩ q1
  | nam i =>
    have h1 : σ[i]? = some (some v) := h1
    unfold retR at q1
    simp only at q1
    cases qe : e1.sl[i]? with
    | none => rw [qe] at q1; exact False.elim q1
    | some c =>
      have s := I1.get qe
      rw [qe] at q1
      cases c with
      | un => exact False.elim q1
      | d d => obtain ⟨w, g, r⟩ := s; rw [h1] at g; cases g; exact l.2.1 v κ1 H1 (.d d) e1 x1 I1.gh r q1
      | own ds => obtain ⟨w, g, r⟩ := s; rw [h1] at g; cases g; exact l.2.1 _ κ1 H1 (.own ds) e1 x1 I1.gh ⟨w, rfl, r⟩ q1
      | dK ds => obtain ⟨w, g, r⟩ := s; rw [h1] at g; cases g; exact l.2.1 _ κ1 H1 (.dK ds) e1 x1 I1.gh ⟨w, rfl, r⟩ q1
      | dT ds => obtain ⟨w, g, r⟩ := s; rw [h1] at g; cases g; exact l.2.1 _ κ1 H1 (.dT ds) e1 x1 I1.gh ⟨w, rfl, r⟩ q1
def sRetN : PTS := fun _ D e => D.rt (.d .non) e
def sIf (c : PTT) (t u : PTS) : PTS := fun x D e => c x e fun b e1 => if b = true then t x D e1 else u x D e1
theorem vs_if {c : Expr} {x y : List Stmt} {tc : PTT} (hc : VT Y c tc) (ha : VSs Y x t) (hb : VSs Y y u) : VS Y (.If c x y pos) (sIf tc t u) := by
  obtain ⟨rc, pc, fc⟩ := hc.ex
  obtain ⟨ra, pa, fa⟩ := ha.ex
  obtain ⟨rb, pb, fb⟩ := hb.ex
  refine ⟨⟨fun E => tIfS (rc E) (ra E) (rb E), fun i => ps_if (pc i) (pa i) (pb i), fun Γ σ κ H env D D' hK I q l => ?_⟩⟩
  refine fc Γ σ κ H env _ _ hK I q fun c κ1 H1 e1 x1 I1 q1 => ?_
  cases c with
  | true => exact fa Γ σ κ1 H1 e1 D D' hK I1 q1 (l.ext x1)
  | false => exact fb Γ σ κ1 H1 e1 D D' hK I1 q1 (l.ext x1)
def sAsg (i : Nat) (te : PTE) : PTS := fun x D e => te x e fun r e1 => i < e1.sl.length ∧ asgR i r e1 D.nx
theorem vs_set {i : Nat} {x : Str} {p' : Pos} (hN : ∀ j, (Y.X j).N.Nodup) (he : VE Y e te) (hi : ∀ j, (Y.X j).N[i]? = some x := by intro _; rfl) (hx : ∀ j, Loc (Y.X j).env.scope x := by first | exact fun _ => Or.inl rfl | exact fun _ => Or.inr rfl)
    (hs : ∀ j, swapsWith e (some (.Name x p')) pos.line (Y.X j).env = pure false := by intro _; rfl)
    (hf : ∀ j, (Y.X j).fn x = true ∨ (Y.X j).env.scope.names.lookup x = some .local := by first | exact fun _ => .inl rfl | exact fun _ => .inr rfl | assumption) : VS Y (.Assign [.Name x p'] e pos) (sAsg i te) := by
  obtain ⟨ra, pa, fa⟩ := he.ex
  refine ⟨⟨fun E => tAsg (ra E) (L2.gName i), fun j => ps_set (hN j) (hi j) (hx j) (pa j) (hs j) (hf j), fun Γ σ κ H env D D' hK I q l => ?_⟩⟩
  refine fa Γ σ κ H env _ _ hK I q fun v κ1 H1 r1 e1 x1 I1 h1 q1 => ?_
  exact asg_ok I1 (by rw [I1.len]; exact q1.1) h1 q1.2 fun κ2 e2 x2 I2 q2 => l.1 _ κ2 H1 e2 (x1.trans x2) I2 q2
/-- a target of names takes data -/
def sAsgG (g : PTG) (te : PTE) : PTS := fun x D e => te x e fun r e1 => fz r e1 fun d e2 => g d e2 D.nx
theorem vs_asgG {tg : Expr} {vs : List Nat} {g : PTG} (he : VE Y e te) (hg : VG Y tg vs g) (hs : ∀ i, swapsWithSole [tg] e pos.line (Y.X i).env = pure false := by intro _; rfl) (hw : ∀ i, swappedStores [tg] e (Y.X i).env = pure none := by intro _; rfl)
    (h1 : ∀ X : Cx, (assignEach [tg] X.env).map (·.2) = [assign tg X.env] := by intro _; rfl) : VS Y (.Assign [tg] e pos) (sAsgG g te) := by
  obtain ⟨ra, pa, fa⟩ := he.ex
  obtain ⟨rg, pg, fg⟩ := hg.ex
  refine ⟨⟨fun E => tAsg (ra E) rg, fun j => ps_asg (pa j) (pg j) (hs j) (hw j) (h1 _), fun Γ σ κ H env D D' hK I q l => ?_⟩⟩
  refine fa Γ σ κ H env _ _ hK I q fun v κ1 H1 r1 e1 x1 I1 h1 q1 => ?_
  refine fz_ok I1 h1 q1 fun κ2 d e2 x2 I2 h2 q2 => ?_
  exact fg Γ σ κ2 H1 e2 v d _ _ hK I2 h2 q2 fun σ' e3 _ I3 q3 => l.1 σ' κ2 H1 e3 (x1.trans x2) I3 q3
/-- a, b = x, y -/
def sPar (i j : Nat) (t : PTA) : PTS := fun x D e => t x e fun ds e1 => match ds with
  | [d1, d2] => i < e1.sl.length ∧ j < e1.sl.length ∧ D.nx ((e1.setC i (.d d1)).setC j (.d d2))
  | _ => False
theorem vs_par {i j : Nat} {x y : Str} {px py pt : Pos} {kt k2 pt2} {t : PTA} (hN : ∀ j, (Y.X j).N.Nodup) (ha : VA Y [a, b] t) (hij : i ≠ j := by decide) (hc : ∀ i, (Y.X i).calm = true := by intro _; rfl) (hi : ∀ k, (Y.X k).N[i]? = some x := by intro _; rfl) (hj : ∀ k, (Y.X k).N[j]? = some y := by intro _; rfl)
    (hx : ∀ k, (Y.X k).env.scope.names.lookup x = some .local := by intro _; rfl) (hy : ∀ k, (Y.X k).env.scope.names.lookup y = some .local := by intro _; rfl)
    (hw : ∀ k, swappedStores [.Tuple [.Name x px, .Name y py] kt pt] (.Tuple [a, b] k2 pt2) (Y.X k).env = pure (some [x, y]) := by intro _; rfl)
    (hs : ∀ k, swapsWithSole [.Tuple [.Name x px, .Name y py] kt pt] (.Tuple [a, b] k2 pt2) pos.line (Y.X k).env = pure false := by intro _; rfl) :
    VS Y (.Assign [.Tuple [.Name x px, .Name y py] kt pt] (.Tuple [a, b] k2 pt2) pos) (sPar i j t) := by
  obtain ⟨ra, pa, fa⟩ := ha.ex
  refine ⟨⟨fun E => tPar i j (ra E), fun k => ps_par (hc k) (hN k) (hi k) (hj k) hij (hx k) (hy k) (pa k) (hw k) (hs k), fun Γ σ κ H env D D' hK I q l => ?_⟩⟩
  refine fa Γ σ κ H env _ _ hK I q fun vs κ1 H1 ds e1 x1 I1 h1 q1 => ?_
  match ds, vs, h1, q1 with
  | [d1, d2], _, .cons (v := v1) r1 (.cons (v := v2) r2 .nil), q1 =>
    refine ⟨v1, v2, rfl, l.1 _ κ1 H1 _ x1 ?_ q1.2.2⟩
    have l1 : i < σ.length := by rw [I1.len]; exact q1.1
    have l2 : j < σ.length := by rw [I1.len]; exact q1.2.1
    have J := I1.assign (c := .d d1) l1 ⟨v1, rfl, r1⟩ fun z => nomatch z
    exact J.assign (c := .d d2) (by simpa using l2) ⟨v2, rfl, r2⟩ fun z => nomatch z
def sWhile (c : PTT) (tb : PTS) : PTS := fun x D e => ∃ (W : En → Prop) (m : En → Nat), W e ∧ ∀ e, W e →
  c x e fun b e1 => if b = true then tb x { D with nx := fun e' => W e' ∧ m e' < m e, ct := fun e' => W e' ∧ m e' < m e, bk := D.nx } e1 else D.nx e1
theorem vs_while {c : Expr} {tc : PTT} (hp : ∀ i, PassesOwn (model (Y.X i).prog (Y.X i).w) (Y.X i).A (Y.X i).env (Y.X i).xe) (hc : VT Y c tc) (hb : VSs Y body t) : VS Y (.While c body [] pos) (sWhile tc t) := by
  obtain ⟨rc, pc, fc⟩ := hc.ex
  obtain ⟨rb, pb, fb⟩ := hb.ex
  refine ⟨⟨fun E => tWhile (rc E) (rb E), fun i => ps_while (hp i) (pc i) (pb i), fun Γ σ κ H env D D' hK I q l => ?_⟩⟩
  obtain ⟨W, m, w0, turn⟩ := q
  refine ⟨fun n σ1 H1 => ∃ κ1 e1, Ext κ H κ1 H1 ∧ Rl Γ κ1 e1 σ1 H1 ∧ W e1 ∧ n = m e1, ⟨_, κ, env, .refl .., I, w0, rfl⟩, ?_⟩
  rintro n σ1 H1 ⟨κ1, e1, x1, I1, w1, rfl⟩
  refine fc Γ σ1 κ1 H1 e1 _ _ hK I1 (turn e1 w1) fun b κ2 H2 e2 x2 I2 q2 => ?_
  have x12 := x1.trans x2
  cases b with
  | true =>
    rw [if_pos rfl] at q2 ⊢
    refine ⟨fun σ' H' => ∃ κ' e', Ext κ H κ' H' ∧ Rl Γ κ' e' σ' H' ∧ W e' ∧ m e' < m e1, fun σ' H' ⟨κ', e', x', I', w', lt⟩ => ⟨_, lt, κ', e', x', I', w', rfl⟩, ?_⟩
    refine fb Γ σ1 κ2 H2 e2 _ _ hK I2 q2 ⟨fun σ' κ' H' e' x' I' q' => ⟨κ', e', x12.trans x', I', q'⟩, fun v κ' H' c e' x' g r q' => l.2.1 v κ' H' c e' (x12.trans x') g r q', fun σ' κ' H' e' x' I' q' => l.1 σ' κ' H' e' (x12.trans x') I' q', fun σ' κ' H' e' x' I' q' => ⟨κ', e', x12.trans x', I', q'⟩⟩
  | false =>
    rw [if_neg Bool.false_ne_true] at q2 ⊢
    exact l.1 σ1 κ2 H2 e2 x12 I2 q2
def Src (K : PySem.W.Frag) (cl : Cl) (κ : Ka) (H : Hp) (J : It) (items : List D) : Prop := ∀ (Γ : Gm), Γ.K = K → Γ.cls = cl → ∀ (σ : Sl) (κ1 : Ka) (H1 : Hp) (env : En) (i : Nat), Rl Γ κ1 env σ H1 → Ext κ H κ1 H1 →
  (∀ d, items[i]? = some d → J.go i H1 ∧ ∀ v H', J.yld i H1 v H' → ∃ κ', Ext κ1 H1 κ' H' ∧ Rl Γ κ' env σ H' ∧ Rep Γ.K Γ.cls κ' H' v d) ∧ (items.length = i → J.stop i H1)
abbrev PTI := PX → En → (List D → En → Prop) → Prop
structure VI (Y : Fam) (tg it : Expr) (t : PTI) : Prop where
  ex : ∃ rd : XK → TI, (∀ i, PI (Y.X i) tg it (rd (Y.E i))) ∧ ∀ (Γ : Gm) (σ : Sl) (κ : Ka) (H : Hp) (env : En) (Q : List D → En → Prop) (Q' : It → Hp → Prop), GK Y Γ → Rl Γ κ env σ H → t Γ.x env Q →
    (∀ J κ' H' items env', Ext κ H κ' H' → Rl Γ κ' env' σ H' → Src Γ.K Γ.cls κ' H' J items → Q items env' → Q' J H') → rd Γ.E σ H Q'
theorem Src.ext {K : PySem.W.Frag} {cl : Cl} {J : It} {items : List D} {κ1 : Ka} {H1 : Hp} (h : Src K cl κ H J items) (x : Ext κ H κ1 H1) : Src K cl κ1 H1 J items := fun Γ hK hc σ κ2 H2 env i I x2 => h Γ hK hc σ κ2 H2 env i I (x.trans x2)
theorem src_list {a : Addr} {vs : List V} {ds : List D} (hk : κ a = some .frz) (ha : H a = some (.lst vs)) (r : RepL Γ.K Γ.cls κ H vs ds) : Src Γ.K Γ.cls κ H (Itl Γ.K a) ds := by
  intro Γ2 hK hc
  rw [← hK, ← hc] at r
  rw [← hK]
  intro σ κ1 H1 env i I x
  have h1 : SqL Γ2.K H1 a vs := SqL.of ((x.2 a hk).trans ha)
  refine ⟨fun d e => ?_, fun e => ⟨vs, h1, by rw [r.length, e]; exact Nat.le_refl _⟩⟩
  obtain ⟨v, e1, r1⟩ := r.get e
  refine ⟨⟨vs, v, h1, e1⟩, fun w H' y => ?_⟩
  obtain ⟨rfl, y⟩ := y
  have := y vs h1
  rw [e1] at this
  cases this
  exact ⟨κ1, .refl .., I, r1.mono x⟩
theorem src_tup {a : Addr} {vs : List V} {ds : List D} (h : Rep Γ.K Γ.cls κ H (.ref a) (.tup ds)) : Src Γ.K Γ.cls κ H (Itt Γ.K a) ds := by
  intro Γ2 hK hc
  rw [← hK, ← hc] at h
  rw [← hK]
  intro σ κ1 H1 env i I x
  obtain ⟨b, vs, e0, h1, _, r⟩ := (h.mono x).sqT
  cases e0
  refine ⟨fun d e => ?_, fun e => ⟨vs, h1, by rw [r.length, e]; exact Nat.le_refl _⟩⟩
  obtain ⟨v, e1, r1⟩ := r.get e
  refine ⟨⟨vs, v, h1, e1⟩, fun w H' y => ?_⟩
  obtain ⟨rfl, y⟩ := y
  have := y vs h1
  rw [e1] at this
  cases this
  exact ⟨κ1, .refl .., I, r1⟩
/-- a text, sign by sign -/
def signs (s : List Nat) : List D := s.map fun c => .str [c]
theorem src_str {K : PySem.W.Frag} {cl : Cl} {s : List Nat} (hs : SOk s) : Src K cl κ H (Its ⟨s.toArray⟩) (signs s) := by
  intro Γ2 hK hc σ κ1 H1 env i I x
  refine ⟨fun d e => ?_, fun e => ?_⟩
  · unfold signs at e
    rw [List.getElem?_map] at e
    cases q : s[i]? with
    | none => rw [q] at e; cases e
    | some c =>
      rw [q] at e
      cases e
      refine ⟨?_, fun v H' y => ?_⟩
      · show i < s.toArray.size
        rw [List.size_toArray]
        exact (List.getElem?_eq_some_iff.mp q).1
      · obtain ⟨rfl, c', e1, rfl⟩ := y
        have e1 : s.toArray[i]? = some c' := e1
        rw [List.getElem?_toArray, q] at e1
        cases e1
        exact ⟨κ1, .refl .., I, .str _ (hs.one (List.mem_of_getElem? q))⟩
  · show s.toArray.size ≤ i
    rw [List.size_toArray, ← e]
    unfold signs
    rw [List.length_map]
    exact Nat.le_refl _
/-- range -/
def rngI (lo : Int) (n : Nat) : List D := (List.range n).map fun (i : Nat) => .int (lo + i)
theorem src_range {K : PySem.W.Frag} {cl : Cl} {lo : Int} {n : Nat} : Src K cl κ H (Itr lo n) (rngI lo n) := by
  intro Γ2 hK hc σ κ1 H1 env i I x
  refine ⟨fun d e => ?_, fun e => ?_⟩
  · unfold rngI at e
    rw [List.getElem?_map] at e
    by_cases hi : i < n
    · rw [List.getElem?_range hi] at e
      cases e
      refine ⟨hi, fun v H' y => ?_⟩
      obtain ⟨rfl, rfl⟩ := y
      exact ⟨κ1, .refl .., I, .int _⟩
    · rw [List.getElem?_eq_none (by simpa using hi)] at e
      cases e
  · show n ≤ i
    rw [← e]
    unfold rngI
    simp
def pRng1 : List D → (List D → Prop) → Prop
  | [.int j], Q => (-(2 ^ 62) ≤ j ∧ j < 2 ^ 62) ∧ Q (rngI 0 j.toNat)
  | _, _ => False
def pRng2 : List D → (List D → Prop) → Prop
  | [.int i, .int j], Q => (-(2 ^ 62) ≤ i ∧ i < 2 ^ 62 ∧ -(2 ^ 62) ≤ j ∧ j < 2 ^ 62) ∧ Q (rngI i (j - i).toNat)
  | _, _ => False
def iPure (p : List D → (List D → Prop) → Prop) (t : PTR) : PTI := fun x e Q => t x e fun rs e1 => match rvL rs e1 with
  | some ds => p ds (fun l => Q l e1)
  | none => False
theorem vi_range1 {tg : Expr} {p : Pos} {t : PTR} (hm : ∀ i, (Y.X i).mg "range" = none) (ha : VR Y [a] t) (hg : ∀ i, Gl (Y.X i) "range" := by intro _; rfl) (hs : ∀ X : Cx, starEach [a] X.env = [(false, eval a X.env)] := by intro _; rfl) : VI Y tg (.Call (.Name "range" p) [a] [] pos) (iPure pRng1 t) := by
  obtain ⟨ra, pa, fa⟩ := ha.ex
  refine ⟨⟨fun E => iRng1 (ra E), fun i => pi_range1 (hg i) (hm i) (pa i) (hs _), fun Γ σ κ H env Q Q' hK I q k => ?_⟩⟩
  refine fa Γ σ κ H env _ _ hK I q fun vs κ1 H1 rs e1 x1 I1 h1 q1 => ?_
  cases e : rvL rs e1 with
  | none => rw [e] at q1; exact False.elim q1
  | some ds =>
    rw [e] at q1
    have rt := rvL_ok I1 h1 e
    match ds, vs, rt, q1 with
    | [.int j], _, .cons h .nil, q1 =>
      cases h
      exact ⟨j, rfl, q1.1.1, q1.1.2, k _ κ1 H1 _ e1 x1 I1 src_range q1.2⟩
def forR (g : PTG) (tb : PTS) (x : PX) (P : PEn) : List D → En → Prop
  | [], e => P.nx e
  | d :: ds, e => g d e fun e' => tb x { P with nx := forR g tb x P ds, ct := forR g tb x P ds, bk := P.nx } e'
def sFor (ti : PTI) (g : PTG) (tb : PTS) : PTS := fun x D e => ti x e fun items e1 => forR g tb x D items e1
theorem vs_for {tg it : Expr} {ti : PTI} {g : PTG} {vs : List Nat} (hp : ∀ i, PassesOwn (model (Y.X i).prog (Y.X i).w) (Y.X i).A (Y.X i).env (Y.X i).xe) (hi : VI Y tg it ti) (hg : VG Y tg vs g) (hb : VSs Y body t)
    (hc : ∀ i, (Y.X i).calm = true := by intro _; rfl) (hs : ∀ (X : Cx) x, foldedSetIterable it X.env x = pure x := by intro _ _; rfl) : VS Y (.For tg it body [] pos) (sFor ti g t) := by
  obtain ⟨ri, pi, fi⟩ := hi.ex
  obtain ⟨rg, pg, fg⟩ := hg.ex
  obtain ⟨rb, pb, fb⟩ := hb.ex
  refine ⟨⟨fun E => tFor (ri E) rg (rb E), fun i => ps_for (hp i) (hc i) (pi i) (pg i) (pb i) (hs _), fun Γ σ κ H env D D' hK I q l => ?_⟩⟩
  refine fi Γ σ κ H env _ _ hK I q fun J κ1 H1 items e1 x1 I1 src q1 => ?_
  refine ⟨fun i m σ2 H2 => ∃ κ2 e2, Ext κ1 H1 κ2 H2 ∧ Rl Γ κ2 e2 σ2 H2 ∧ m = items.length - i ∧ i ≤ items.length ∧ forR g t Γ.x D (items.drop i) e2, ⟨_, κ1, e1, .refl .., I1, rfl, Nat.zero_le _, q1⟩, ?_⟩
  rintro i m σ2 H2 ⟨κ2, e2, x2, I2, rfl, hi, q2⟩
  obtain ⟨s1, s2⟩ := src Γ rfl rfl σ2 κ2 H2 e2 i I2 x2
  by_cases hlt : i < items.length
  · have hd : items.drop i = items[i] :: items.drop (i + 1) := List.drop_eq_getElem_cons hlt
    rw [hd] at q2
    obtain ⟨go, yl⟩ := s1 items[i] (List.getElem?_eq_getElem hlt)
    refine .inr ⟨go, fun σ' H' => ∃ κ' e', Ext κ1 H1 κ' H' ∧ Rl Γ κ' e' σ' H' ∧ forR g t Γ.x D (items.drop (i + 1)) e', fun σ' H' ⟨κ', e', x', I', q'⟩ => ⟨items.length - (i + 1), by omega, κ', e', x', I', rfl, hlt, q'⟩, fun v H' y => ?_⟩
    obtain ⟨κ3, x3, I3, r3⟩ := yl v H' y
    refine fg Γ σ2 κ3 H' e2 v _ _ _ hK I3 r3 q2 fun σ4 e4 _ I4 q4 => ?_
    have x13 := x2.trans x3
    exact fb Γ σ4 κ3 H' e4 _ _ hK I4 q4 ⟨fun σ' κ' H' e' x' I' q' => ⟨κ', e', x13.trans x', I', q'⟩, fun v κ' H' c e' x' gg r q' => l.2.1 v κ' H' c e' (x1.trans (x13.trans x')) gg r q', fun σ' κ' H' e' x' I' q' => l.1 σ' κ' H' e' (x1.trans (x13.trans x')) I' q', fun σ' κ' H' e' x' I' q' => ⟨κ', e', x13.trans x', I', q'⟩⟩
  · have e : i = items.length := by omega
    subst e
    rw [List.drop_length] at q2
    exact .inl ⟨s2 rfl, l.1 σ2 κ2 H2 e2 (x1.trans x2) I2 q2⟩
end
end Pu
set_option maxRecDepth 100000
set_option maxHeartbeats 4000000
namespace Pu
open PySem L2
section
variable {Γ Γ' : Gm} {κ κ' : Ka} {H H' : Hp} {env env' : En} {σ : Sl} {v : V} {st : Sto} {Y : Fam} {a b e : Expr} {es : List Expr} {ta tb te : PTE} {pos : Pos}
theorem OwnC.switch {a : Addr} {c : C} (hK : Γ'.K = Γ.K) (hc : Γ'.cls = Γ.cls) (h0 : Γ'.H0 a = none) (h : OwnC Γ κ H a c) : OwnC Γ' κ H a c := by
  cases c with
  | own ds => obtain ⟨h1, _, vs, h2, h3, h4⟩ := h; exact ⟨h1, h0, vs, h2, h3, by rw [hK, hc]; exact h4⟩
  | dK ds => obtain ⟨h1, _, vs, h2, h4⟩ := h; exact ⟨h1, h0, vs, h2, by rw [hK, hc]; exact h4⟩
  | dT ds => obtain ⟨h1, _, vs, h2, h4⟩ := h; exact ⟨h1, h0, vs, h2, by rw [hK, hc]; exact h4⟩
  | _ => exact h.elim
theorem ObjR.switch {a : Addr} {so : SO} (hK : Γ'.K = Γ.K) (hc : Γ'.cls = Γ.cls) (h : ObjR Γ κ H a so) : ObjR Γ' κ H a so := by
  cases so with
  | lst ds => obtain ⟨vs, h1, h2, h3⟩ := h; exact ⟨vs, h1, h2, by rw [hK, hc]; exact h3⟩
  | dK ds => obtain ⟨vs, h1, h3⟩ := h; exact ⟨vs, h1, by rw [hK, hc]; exact h3⟩
  | dT ds => obtain ⟨vs, h1, h3⟩ := h; exact ⟨vs, h1, by rw [hK, hc]; exact h3⟩
  | ins c fs => obtain ⟨dx, vs, h1, h3⟩ := h; exact ⟨dx, vs, by rw [hc]; exact h1, by rw [hK, hc]; exact h3⟩
  | exc c ds => exact h
theorem Rl.switch (hK : Γ'.K = Γ.K) (hc : Γ'.cls = Γ.cls) (I : Rl Γ κ env σ H) (own : ∀ i a, OwnS env σ i a → Γ'.H0 a = none) (g : Gh Γ' κ env.st H) : Rl Γ' κ env σ H := by
  refine ⟨I.len, fun i c ec => ?_, I.dist, g⟩
  have s := I.get ec
  cases h : c.isOwn with
  | true =>
    obtain ⟨a, e1, ho⟩ := s.own h
    exact .mk e1 (ho.switch hK hc (own i a ⟨e1, c, ec, h⟩))
  | false =>
    cases c with
    | un => trivial
    | d d => obtain ⟨v, e1, r⟩ := s; exact ⟨v, e1, by rw [hK, hc]; exact r⟩
    | _ => cases h
/-- one address more stands still; no exception leaves -/
def Gm.prot (Γ : Gm) (D : Addr) (o : HO) : Gm := { Γ with H0 := upd Γ.H0 D o, E := E0, x := fun _ _ => False }
theorem Rl.prot {D : Addr} {o : HO} (I : Rl Γ κ env σ H) (h : H D = some o) (hk : κ D = none) (ho : ∀ i, ¬ OwnS env σ i D) : Rl (Γ.prot D o) κ env σ H := by
  have nk : Γ.k0 D = none := by
    cases q : Γ.k0 D with
    | none => rfl
    | some x => have := I.gh.sub D x q; rw [hk] at this; cases this
  have g := I.gh
  refine Rl.switch (Γ := Γ) (Γ' := Γ.prot D o) rfl rfl I (fun i a hs => ?_) ⟨g.sub, fun a x e => ?_, g.trk, fun a e => ?_, g.box, fun a k e => ?_, g.inj, fun a u e hk' => ?_⟩
  · have hne : a ≠ D := fun z => ho i (z ▸ hs)
    show upd Γ.H0 D o a = none
    rw [upd_ne hne]
    obtain ⟨c, _, hc⟩ := I.ownS hs
    exact hc.facts.2.1
  · have hne : a ≠ D := fun q => by rw [q, hk] at e; cases e
    rcases g.new a x e with z | z | ⟨z1, vs, z⟩
    · exact .inl z
    · refine .inr (.inl ?_)
      show upd Γ.H0 D o a = none
      rw [upd_ne hne]
      exact z
    · refine .inr (.inr ⟨z1, vs, ?_⟩)
      show upd Γ.H0 D o a = _
      rw [upd_ne hne]
      exact z
  · by_cases ha : a = D
    · rw [ha, h]; simp
    · have e : upd Γ.H0 D o a ≠ none := e
      rw [upd_ne ha] at e
      exact g.trk0 a e
  · obtain ⟨so, h1, h2⟩ := g.obj a k e
    exact ⟨so, h1, h2.switch rfl rfl⟩
  · have e : upd Γ.H0 D o a = some u := e
    by_cases ha : a = D
    · subst ha
      rw [upd_same] at e
      cases e
      exact h
    · rw [upd_ne ha] at e
      exact g.base a u e hk'
theorem Rl.unprot {D : Addr} {o : HO} (I : Rl (Γ.prot D o) κ env σ H) (nk : Γ.k0 D = none) (h0 : Γ.H0 D = none) (hot : ∀ vs, o ≠ .tup vs := by intro _ z; cases z) : Rl Γ κ env σ H ∧ κ D = none ∧ H D = some o ∧ ∀ i, ¬ OwnS env σ i D := by
  have g := I.gh
  have hD : (Γ.prot D o).H0 D = some o := upd_same
  have kD : κ D = none := by
    cases q : κ D with
    | none => rfl
    | some x =>
      rcases g.new D x q with z | z | ⟨_, vs, z⟩
      · have z : Γ.k0 D = some x := z
        rw [nk] at z; cases z
      · rw [hD] at z; cases z
      · rw [hD] at z; exact (hot vs (Option.some.inj z)).elim
  have ho : ∀ i, ¬ OwnS env σ i D := fun i hs => by
    obtain ⟨c, _, hc⟩ := I.ownS hs
    have := hc.facts.2.1
    rw [hD] at this; cases this
  have low : ∀ a, (Γ.prot D o).H0 a = none → Γ.H0 a = none := fun a z => by
    by_cases ha : a = D
    · rw [ha]; exact h0
    · have z : upd Γ.H0 D o a = none := z
      rw [upd_ne ha] at z; exact z
  have up : ∀ a u, Γ.H0 a = some u → (Γ.prot D o).H0 a = some u := fun a u z => by
    show upd Γ.H0 D o a = some u
    rw [upd_ne (fun q => by rw [q, h0] at z; cases z)]; exact z
  refine ⟨Rl.switch (Γ := Γ.prot D o) (Γ' := Γ) rfl rfl I (fun i a hs => ?_) ⟨g.sub, fun a x e => ?_, g.trk, fun a e => ?_, g.box, fun a k e => ?_, g.inj, fun a u e hk' => g.base a u (up a u e) hk'⟩, kD, g.base D o hD (.inl nk), ho⟩
  · obtain ⟨c, _, hc⟩ := I.ownS hs
    exact low a hc.facts.2.1
  · rcases g.new a x e with z | z | ⟨z1, vs, z⟩
    · exact .inl z
    · exact .inr (.inl (low a z))
    · refine .inr (.inr ⟨z1, vs, ?_⟩)
      have z : upd Γ.H0 D o a = some (.tup vs) := z
      rw [upd_ne (fun q => by rw [q, kD] at e; cases e)] at z
      exact z
  · refine g.trk0 a ?_
    cases q : Γ.H0 a with
    | none => exact absurd q e
    | some u => rw [up a u q]; simp
  · obtain ⟨so, h1, h2⟩ := g.obj a k e
    exact ⟨so, h1, h2.switch rfl rfl⟩
def Fam.blk (Y : Fam) (scope : Scope) : Fam where
  ι := Y.ι × Shared × Hp × Addr × List (Str × Addr) × List Addr
  X := fun p => (Y.X p.1).blk p.2.1 p.2.2.1 scope (compEnvC scope p.2.2.2.2.1 p.2.2.2.1 (Y.X p.1).env) p.2.2.2.2.2
  E := fun _ => E0
  K := Y.K
  hK := fun p => Y.hK p.1
  cls := Y.cls
  flds := Y.flds
def wipeC (l : List C) : List Nat → List C
  | [] => l
  | v :: vs => (wipeC l vs).set v .un
def wipeE (vs : List Nat) (e : En) : En := ⟨wipeC e.sl vs, e.st⟩
def restC (old : List C) (l : List C) : List Nat → List C
  | [] => l
  | v :: vs => (restC old l vs).set v (old.getD v .un)
def restE (vs : List Nat) (old e : En) : En := ⟨restC old.sl e.sl vs, e.st⟩
def plainC (l : List C) : List Nat → Bool
  | [] => true
  | v :: vs => (match l.getD v .un with | .d _ => true | .un => true | _ => false) && plainC l vs
theorem wipeC_length (l : List C) : ∀ vs, (wipeC l vs).length = l.length
  | [] => rfl
  | v :: vs => by unfold wipeC; rw [List.length_set, wipeC_length l vs]
theorem restC_length (old l : List C) : ∀ vs, (restC old l vs).length = l.length
  | [] => rfl
  | v :: vs => by unfold restC; rw [List.length_set, restC_length old l vs]
theorem wipeC_get {l : List C} {i : Nat} : ∀ {vs : List Nat}, (wipeC l vs)[i]? = if i ∈ vs then l[i]?.map (fun _ => C.un) else l[i]?
  | [] => by simp [wipeC]
  | v :: vs => by
    unfold wipeC
    by_cases hi : v = i
    · subst hi
      rw [if_pos (by simp)]
      by_cases hl : v < l.length
      · rw [List.getElem?_set_self (by rw [wipeC_length]; exact hl), List.getElem?_eq_getElem hl]; rfl
      · rw [List.getElem?_eq_none (by rw [List.length_set, wipeC_length]; omega), List.getElem?_eq_none (by omega)]; rfl
    · rw [List.getElem?_set_ne hi, wipeC_get (vs := vs)]
      have : i ∈ v :: vs ↔ i ∈ vs := by simp [Ne.symm hi]
      by_cases h : i ∈ vs
      · rw [if_pos h, if_pos (this.mpr h)]
      · rw [if_neg h, if_neg (fun z => h (this.mp z))]
theorem restC_get {old l : List C} {i : Nat} : ∀ {vs : List Nat}, (restC old l vs)[i]? = if i ∈ vs then l[i]?.map (fun _ => old.getD i .un) else l[i]?
  | [] => by simp [restC]
  | v :: vs => by
    unfold restC
    by_cases hi : v = i
    · subst hi
      rw [if_pos (by simp)]
      by_cases hl : v < l.length
      · rw [List.getElem?_set_self (by rw [restC_length]; exact hl), List.getElem?_eq_getElem hl]; rfl
      · rw [List.getElem?_eq_none (by rw [List.length_set, restC_length]; omega), List.getElem?_eq_none (by omega)]; rfl
    · rw [List.getElem?_set_ne hi, restC_get (vs := vs)]
      have : i ∈ v :: vs ↔ i ∈ vs := by simp [Ne.symm hi]
      by_cases h : i ∈ vs
      · rw [if_pos h, if_pos (this.mpr h)]
      · rw [if_neg h, if_neg (fun z => h (this.mp z))]
theorem wipe_get {σ : Sl} {i : Nat} : ∀ {vs : List Nat}, (L2.wipe σ vs)[i]? = if i ∈ vs then σ[i]?.map (fun _ => none) else σ[i]?
  | [] => by simp [L2.wipe]
  | v :: vs => by
    unfold L2.wipe
    by_cases hi : v = i
    · subst hi
      rw [if_pos (by simp)]
      by_cases hl : v < σ.length
      · rw [List.getElem?_set_self (by rw [wipe_length]; exact hl), List.getElem?_eq_getElem hl]; rfl
      · rw [List.getElem?_eq_none (by rw [List.length_set, wipe_length]; omega), List.getElem?_eq_none (by omega)]; rfl
    · rw [List.getElem?_set_ne hi, wipe_get (vs := vs)]
      have : i ∈ v :: vs ↔ i ∈ vs := by simp [Ne.symm hi]
      by_cases h : i ∈ vs
      · rw [if_pos h, if_pos (this.mpr h)]
      · rw [if_neg h, if_neg (fun z => h (this.mp z))]
/-- off vs both are the same -/
theorem wipe_off {vs : List Nat} {σ σ' : Sl} (o : Off vs (L2.wipe σ vs) σ') : L2.wipe σ' vs = L2.wipe σ vs := by
  apply List.ext_getElem?
  intro i
  rw [wipe_get, wipe_get]
  by_cases h : i ∈ vs
  · rw [if_pos h, if_pos h]
    have l := o.1
    rw [wipe_length] at l
    by_cases hl : i < σ.length
    · rw [List.getElem?_eq_getElem hl, List.getElem?_eq_getElem (show i < σ'.length by omega)]; rfl
    · rw [List.getElem?_eq_none (by omega), List.getElem?_eq_none (by omega)]
  · rw [if_neg h, if_neg h, o.2 i h, wipe_get, if_neg h]
theorem OwnS.unwipe {vs : List Nat} {i : Nat} {a : Addr} (h : OwnS (wipeE vs env) (L2.wipe σ vs) i a) : OwnS env σ i a := by
  obtain ⟨z1, c, z2, z3⟩ := h
  have z2 : (wipeC env.sl vs)[i]? = some c := z2
  rw [wipeC_get] at z2
  rw [wipe_get] at z1
  by_cases h : i ∈ vs
  · rw [if_pos h] at z2
    cases q : env.sl[i]? with
    | none => rw [q] at z2; cases z2
    | some c' => rw [q] at z2; cases z2; cases z3
  · rw [if_neg h] at z1 z2
    exact ⟨z1, c, z2, z3⟩
theorem Rl.wipe {vs : List Nat} (I : Rl Γ κ env σ H) : Rl Γ κ (wipeE vs env) (L2.wipe σ vs) H := by
  have sub : ∀ i a, OwnS (wipeE vs env) (L2.wipe σ vs) i a → OwnS env σ i a := fun i a h => h.unwipe
  refine ⟨by rw [wipe_length, I.len]; exact (wipeC_length _ _).symm, fun i c ec => ?_, fun i j a h1 h2 => I.dist i j a (sub i a h1) (sub j a h2), I.gh⟩
  have ec : (wipeC env.sl vs)[i]? = some c := ec
  rw [wipeC_get] at ec
  rw [wipe_get]
  by_cases h : i ∈ vs
  · rw [if_pos h] at ec
    cases q : env.sl[i]? with
    | none => rw [q] at ec; cases ec
    | some c' => rw [q] at ec; cases ec; trivial
  · rw [if_neg h] at ec ⊢
    exact I.get ec
theorem plainC_at {l : List C} : ∀ {ws : List Nat}, plainC l ws = true → ∀ i ∈ ws, l.getD i .un = .un ∨ ∃ d, l.getD i .un = .d d
  | [], _, i, hi => by cases hi
  | w :: ws, h, i, hi => by
    unfold plainC at h
    rw [Bool.and_eq_true] at h
    rcases List.mem_cons.mp hi with rfl | hi
    · cases q : l.getD i .un with
      | un => exact .inl rfl
      | d d => exact .inr ⟨d, rfl⟩
      | own _ => rw [q] at h; cases h.1
      | dK _ => rw [q] at h; cases h.1
      | dT _ => rw [q] at h; cases h.1
    · exact plainC_at h.2 i hi
theorem OwnS.unrest {vs : List Nat} {e0 : En} {i : Nat} {a : Addr} (hp : plainC e0.sl vs = true) (h : OwnS (restE vs e0 env) σ i a) : OwnS env (L2.wipe σ vs) i a := by
  obtain ⟨z1, c, z2, z3⟩ := h
  have z2 : (restC e0.sl env.sl vs)[i]? = some c := z2
  rw [restC_get] at z2
  by_cases h : i ∈ vs
  · rw [if_pos h] at z2
    cases q : env.sl[i]? with
    | none => rw [q] at z2; cases z2
    | some c' =>
      rw [q] at z2
      cases z2
      rcases plainC_at hp i h with z | ⟨d, z⟩ <;> (rw [z] at z3; cases z3)
  · rw [if_neg h] at z2
    exact ⟨by rw [wipe_get, if_neg h]; exact z1, c, z2, z3⟩
/-- the block's names as they were ahead -/
theorem Rl.rest {vs : List Nat} {e0 : En} {κ0 : Ka} {H0 : Hp} (I0 : Rl Γ κ0 e0 σ H0) (hp : plainC e0.sl vs = true) (x : Ext κ0 H0 κ H) (I : Rl Γ κ env (L2.wipe σ vs) H) : Rl Γ κ (restE vs e0 env) σ H := by
  have pl := fun i hi => plainC_at hp i hi
  have hl : env.sl.length = σ.length := by rw [← I.len, wipe_length]
  have sub : ∀ i a, OwnS (restE vs e0 env) σ i a → OwnS env (L2.wipe σ vs) i a := fun i a h => h.unrest hp
  refine ⟨by rw [← hl]; exact (restC_length _ _ _).symm, fun i c ec => ?_, fun i j a h1 h2 => I.dist i j a (sub i a h1) (sub j a h2), I.gh⟩
  have ec : (restC e0.sl env.sl vs)[i]? = some c := ec
  rw [restC_get] at ec
  by_cases h : i ∈ vs
  · rw [if_pos h] at ec
    cases q : env.sl[i]? with
    | none => rw [q] at ec; cases ec
    | some c' =>
      rw [q] at ec
      cases ec
      have hi : i < e0.sl.length := by rw [← I0.len, ← hl]; exact (List.getElem?_eq_some_iff.mp q).1
      have g : e0.sl[i]? = some (e0.sl.getD i .un) := by rw [List.getD_eq_getElem?_getD, List.getElem?_eq_getElem hi]; rfl
      have s := I0.get g
      rcases pl i h with z | ⟨d, z⟩
      · rw [z]; trivial
      · rw [z] at s ⊢
        obtain ⟨w, e1, r⟩ := s
        exact ⟨w, e1, r.mono x⟩
  · rw [if_neg h] at ec
    have s := I.get ec
    rw [wipe_get, if_neg h] at s
    exact s
structure VTs (Y : Fam) (ifs : List Expr) (t : PTT) : Prop where
  ex : ∃ rd : XK → TT, (∀ i, PTs (Y.X i) ifs (rd (Y.E i))) ∧ ∀ (Γ : Gm) (σ : Sl) (κ : Ka) (H : Hp) (env : En) (Q : Bool → En → Prop) (Q' : Bool → Hp → Prop), GK Y Γ → Rl Γ κ env σ H → t Γ.x env Q →
    (∀ b κ' H' env', Ext κ H κ' H' → Rl Γ κ' env' σ H' → Q b env' → Q' b H') → rd Γ.E σ H Q'
def cYes : PTT := fun _ e Q => Q true e
theorem vts_nil : VTs Y [] cYes := ⟨⟨fun _ => tYes, fun _ => pts_nil, fun Γ σ κ H env Q Q' hK I q k => k true κ H env (.refl ..) I q⟩⟩
def noX : PX := fun _ _ => False
def lcR (g : PTG) (tt : PTT) (te : PTE) (vs : List Nat) : List D → List D → En → (List D → En → Prop) → Prop
  | [], acc, e, Q => Q acc e
  | d :: ds, acc, e, Q => g d e fun e1 => tt noX e1 fun b e2 => if b = true then te noX e2 fun r e3 => fz r e3 fun y e4 => lcR g tt te vs ds (acc ++ [y]) (wipeE vs e4) Q else lcR g tt te vs ds acc (wipeE vs e2) Q
def cLc (ti : PTI) (g : PTG) (tt : PTT) (te : PTE) (vs : List Nat) : PTE := fun x e Q => ti x e fun items e1 => items.length ≤ sizeLine ∧ plainC e1.sl vs = true ∧
  lcR g tt te vs items [] (wipeE vs e1) fun acc e2 => Q (.own acc) (restE vs e1 e2)
theorem lc_ref {scope : Scope} {tg it elt : Expr} {ifs : List Expr} {own : List (Str × Nat)} {ti : PTI} {g : PTG} {tt : PTT} {te : PTE} {vs : List Nat} {ri : XK → TI} {rg : TG} {rt : TT} {re : TE}
    (hv : own.map (·.2) = vs)
    (fi : ∀ (Γ : Gm) (σ : Sl) (κ : Ka) (H : Hp) (env : En) (Q : List D → En → Prop) (Q' : It → Hp → Prop), GK Y Γ → Rl Γ κ env σ H → ti Γ.x env Q →
    (∀ J κ' H' items env', Ext κ H κ' H' → Rl Γ κ' env' σ H' → Src Γ.K Γ.cls κ' H' J items → Q items env' → Q' J H') → ri Γ.E σ H Q')
    (fg : ∀ (Γ : Gm) (σ : Sl) (κ : Ka) (H : Hp) (env : En) (v : V) (d : D) (Q : En → Prop) (Q' : Sl → Hp → Prop), GK (Y.blk scope) Γ → Rl Γ κ env σ H → Rep Γ.K Γ.cls κ H v d → g d env Q →
    (∀ σ' env', Off vs σ σ' → Rl Γ κ env' σ' H → Q env' → Q' σ' H) → rg v σ H Q')
    (ft : ∀ (Γ : Gm) (σ : Sl) (κ : Ka) (H : Hp) (env : En) (Q : Bool → En → Prop) (Q' : Bool → Hp → Prop), GK (Y.blk scope) Γ → Γ.E = E0 → Rl Γ κ env σ H → tt Γ.x env Q →
    (∀ b κ' H' env', Ext κ H κ' H' → Rl Γ κ' env' σ H' → Q b env' → Q' b H') → rt σ H Q')
    (fe : ∀ (Γ : Gm) (σ : Sl) (κ : Ka) (H : Hp) (env : En) (Q : R → En → Prop) (Q' : VK), GK (Y.blk scope) Γ → Γ.E = E0 → Rl Γ κ env σ H → te Γ.x env Q →
    (∀ v κ' H' r env', Ext κ H κ' H' → Rl Γ κ' env' σ H' → RelR Γ κ' H' env' σ v r → Q r env' → Q' v H') → re σ H Q')
    {Q : R → En → Prop} {Q' : VK} (hK : GK Y Γ) (I : Rl Γ κ env σ H) (q : cLc ti g tt te vs Γ.x env Q)
    (k : ∀ v κ' H' r env', Ext κ H κ' H' → Rl Γ κ' env' σ H' → RelR Γ κ' H' env' σ v r → Q r env' → Q' v H') : L2.tLc (ri Γ.E) rg rt re (own.map (·.2)) σ H Q' := by
  rw [hv]
  refine fi Γ σ κ H env _ _ hK I q fun J κ1 H1 items e1 x1 I1 src q1 => ?_
  obtain ⟨hz, hp, q1⟩ := q1
  intro D hD
  have kD1 : κ1 D = none := I1.gh.nokap hD
  have hD0 : Γ.H0 D = none := I1.gh.nokap0 hD
  have nk : Γ.k0 D = none := by
    cases z : Γ.k0 D with
    | none => rfl
    | some x => have := I1.gh.sub D x z; rw [kD1] at this; cases this
  have x2 : Ext κ1 H1 κ1 (upd H1 D (.lst [])) := Ext.upd_new I1.gh hD
  have I2 := (I1.upd_new (o := .lst []) hD)
  refine ⟨fun i m H2 => ∃ κ2 e2 acc vacc, Ext κ1 H1 κ2 H2 ∧ Rl Γ κ2 e2 (L2.wipe σ vs) H2 ∧ m = items.length - i ∧ i ≤ items.length ∧ H2 D = some (.lst vacc) ∧ RepL Γ.K Γ.cls κ2 H2 vacc acc ∧ κ2 D = none ∧ (∀ j, ¬ OwnS e2 (L2.wipe σ vs) j D) ∧ acc.length ≤ i ∧
      lcR g tt te vs (items.drop i) acc e2 (fun acc e2 => Q (.own acc) (restE vs e1 e2)), ⟨_, κ1, wipeE vs e1, [], [], x2, I2.wipe, rfl, Nat.zero_le _, upd_same, .nil, kD1, (fun j hj => I1.fresh hD j hj.unwipe), Nat.le_refl _, q1⟩, ?_⟩
  rintro i m H2 ⟨κ2, e2, acc, vacc, y2, J2, rfl, hi, hD2, ra, kD, oD, la, q2⟩
  obtain ⟨s1, s2⟩ := src Γ rfl rfl _ κ2 H2 e2 i J2 y2
  by_cases hlt : i < items.length
  · have hd : items.drop i = items[i] :: items.drop (i + 1) := List.drop_eq_getElem_cons hlt
    rw [hd] at q2
    have P2 := J2.prot hD2 kD oD
    have gk : GK (Y.blk scope) (Γ.prot D (.lst vacc)) := ⟨hK.k, hK.c, hK.f, fun _ _ _ _ _ _ _ _ z _ _ => False.elim z⟩
    obtain ⟨go, _⟩ := s1 items[i] (List.getElem?_eq_getElem hlt)
    refine .inr ⟨go, fun H' => ∃ κ' e' acc' vacc', Ext κ1 H1 κ' H' ∧ Rl Γ κ' e' (L2.wipe σ vs) H' ∧ H' D = some (.lst vacc') ∧ RepL Γ.K Γ.cls κ' H' vacc' acc' ∧ κ' D = none ∧ (∀ j, ¬ OwnS e' (L2.wipe σ vs) j D) ∧ acc'.length ≤ i + 1 ∧
      lcR g tt te vs (items.drop (i + 1)) acc' e' (fun acc e2 => Q (.own acc) (restE vs e1 e2)), fun H' ⟨κ', e', acc', vacc', z1, z2, z3, z4, z5, z6, z7, z8⟩ => ⟨items.length - (i + 1), by omega, κ', e', acc', vacc', z1, z2, rfl, hlt, z3, z4, z5, z6, z7, z8⟩, fun w H' yl => ?_⟩
    -- the item, with the new list standing still
    obtain ⟨s1', _⟩ := src (Γ.prot D (.lst vacc)) rfl rfl _ κ2 H2 e2 i P2 y2
    obtain ⟨_, yy⟩ := s1' items[i] (List.getElem?_eq_getElem hlt)
    obtain ⟨κ3, y3, P3, r3⟩ := yy w H' yl
    refine fg (Γ.prot D (.lst vacc)) _ κ3 H' e2 w _ _ _ gk P3 r3 q2 fun σ4 e4 o4 P4 q4 => ?_
    refine ⟨wipe_off o4, ft (Γ.prot D (.lst vacc)) σ4 κ3 H' e4 _ _ gk rfl P4 q4 fun bb κ5 H5 e5 y5 P5 q5 => ?_⟩
    have w4 : L2.wipe σ4 vs = L2.wipe σ vs := wipe_off o4
    cases bb with
    | true =>
      rw [if_pos rfl] at q5 ⊢
      refine fe (Γ.prot D (.lst vacc)) σ4 κ5 H5 e5 _ _ gk rfl P5 q5 fun u κ6 H6 r6 e6 y6 P6 h6 q6 => ?_
      refine fz_ok P6 h6 q6 fun κ7 d e7 y7 P7 r7 q7 => ?_
      obtain ⟨J7, k7, hD7, o7⟩ := P7.unprot nk hD0
      have y27 : Ext κ2 H2 κ7 H6 := ((y3.trans y5).trans y6).trans y7
      refine ⟨vacc, hD7, Nat.lt_of_le_of_lt (by rw [ra.length]; exact la) (Nat.lt_of_lt_of_le hlt hz), ?_⟩
      have y8 : Ext κ7 H6 κ7 (upd H6 D (.lst (vacc ++ [u]))) := Ext.upd k7
      have J8 : Rl Γ κ7 e7 σ4 (upd H6 D (.lst (vacc ++ [u]))) := J7.step (st' := e7.st) y8 (fun j c hj => ⟨by
        obtain ⟨c', _, hc⟩ := J7.ownS hj
        exact hc.facts.1, upd_ne fun z => o7 j (z ▸ hj)⟩) (J7.gh.upd k7 hD0)
      have J9 : Rl Γ κ7 (wipeE vs e7) (L2.wipe σ vs) (upd H6 D (.lst (vacc ++ [u]))) := by rw [← w4]; exact J8.wipe
      refine ⟨κ7, wipeE vs e7, acc ++ [d], vacc ++ [u], y2.trans (y27.trans y8), J9, upd_same, (ra.mono (y27.trans y8)).append (.cons (r7.mono y8) .nil), k7, fun j hj => ?_, by simp only [List.length_append, List.length_singleton]; omega, q7⟩
      rw [← w4] at hj
      exact o7 j hj.unwipe
    | false =>
      rw [if_neg Bool.false_ne_true] at q5 ⊢
      obtain ⟨J7, k7, hD7, o7⟩ := P5.unprot nk hD0
      have y27 : Ext κ2 H2 κ5 H5 := y3.trans y5
      refine ⟨κ5, wipeE vs e5, acc, vacc, y2.trans y27, by rw [← w4]; exact J7.wipe, hD7, ra.mono y27, k7, fun j hj => ?_, by omega, q5⟩
      rw [← w4] at hj
      exact o7 j hj.unwipe
  · have e : i = items.length := by omega
    subst e
    rw [List.drop_length] at q2
    refine .inl ⟨s2 rfl, ?_⟩
    have J3 : Rl Γ κ2 (restE vs e1 e2) σ H2 := Rl.rest I1 hp y2 J2
    refine k (.ref D) κ2 H2 (.own acc) (restE vs e1 e2) (x1.trans y2) J3 ⟨D, rfl, ⟨kD, hD0, vacc, hD2, by rw [ra.length]; exact Nat.le_trans la hz, ra⟩, fun j hj => ?_⟩ q2
    exact oD j (hj.unrest hp)
end
end Pu
set_option maxRecDepth 100000
set_option maxHeartbeats 400000
namespace Pu
open PySem L2 PySem.Spec PyProof.Rows
/-- a def's promise where no guard stands -/
structure FnG (P : Program) (w : World) (K : PySem.W.Frag) (mg : Str → Option Value) (base : Heap) (CX : CXT) (k : Nat) (f : Addr) (fd : FuncData) (ps : List Str) (sp : Sp) : Prop where
  many : ∀ us H Q E, sp us H Q E → us.length = ps.length
  go : ∀ (A : Around) (out : List Env) (t : Shared) (H : Hp) (ar : Args) (gs : List Value) (us : List V) (Q : VK) (E : XK), Room k A → A.guards = some [] → Env0 P w K mg base A out t H → BindsTo t fd ar (ps.zip gs) →
    Vals us gs → sp us H Q E → codeAny (model P w) A (.call (.ref f) ar) (CR CX out P w H t Q E) t
section
variable {P : Program} {w : World} {K : PySem.W.Frag} {mg : Str → Option Value} {base : Heap} {CX : CXT} {j k : Nat} {f : Addr} {fd : FuncData} {ps : List Str} {sp sp' : Sp}
theorem FnG.of (F : FnOk P w K mg base CX k f fd ps sp) : FnG P w K mg base CX k f fd ps sp :=
  ⟨F.len, fun A out t H ar gs us Q E r _ => F.run A out t H ar gs us Q E r⟩
theorem FnG.mono (F : FnG P w K mg base CX j f fd ps sp) (h : j ≤ k) : FnG P w K mg base CX k f fd ps sp :=
  ⟨F.many, fun A out t H ar gs us Q E r => F.go A out t H ar gs us Q E (r.mono h)⟩
theorem FnG.imp (F : FnG P w K mg base CX k f fd ps sp) (h : ∀ us H Q E, sp' us H Q E → sp us H Q E) : FnG P w K mg base CX k f fd ps sp' :=
  ⟨fun us H Q E z => F.many us H Q E (h _ _ _ _ z), fun A out t H ar gs us Q E r hg e b v z => F.go A out t H ar gs us Q E r hg e b v (h _ _ _ _ z)⟩
end
section
variable {X : Cx} {CX : CXT} {k : Nat} {f : Addr} {fd : FuncData} {ps : List Str} {sp : Sp} {dvs : List V} {ds : List Value} {E : XK} {x : Str} {p pos : Pos} {e : Expr} {es : List Expr} {t : TA}
theorem goG {pins : List (Addr × Obj)} {σ : L2.St} {H : Hp} {s : Shared} {Q : VK} {gs : List Value} {us : List V} (F : FnG X.prog X.w X.K X.mg X.base CX k f fd ps sp) (hr : Room k X.A) (hgd : X.A.guards = some []) (hb : Binds X.K fd ps ds) (hd : Vals dvs ds) (hx : Passes CX X E)
    (I : Inv X pins σ H s) (r : Vals us gs) (h : sp (us ++ dvs) H Q E) : wpAny (model X.prog X.w) X.A (call (.ref f) gs) (EP X pins σ Q) X.xe s := by
  have rr := r.append hd
  have hl : (gs ++ ds).length = ps.length := rr.length.symm.trans (F.many _ _ _ _ h)
  have body := F.go X.A X.stack s H ⟨gs, []⟩ _ _ Q E hr hgd I.env0 (hb s gs I.kIn hl) rr h
  refine wpAny_call (codeAny_mono body fun res s' z => ?_)
  match res, z with
  | .error e, z => exact hx pins σ H s e s' I z
  | .ok (.ret u), z => exact I.after z
theorem pe_callG (F : FnG X.prog X.w X.K X.mg X.base CX k f fd ps sp) (hr : Room k X.A) (hgd : X.A.guards = some []) (hg : Gl X x) (hm : X.mg x = some (.ref f)) (hk : PySem.W.keepIn X.K (.ref f) = true) (hb : Binds X.K fd ps ds) (hd : Vals dvs ds) (hx : Passes CX X E)
    (ha : PA X (e :: es) t) (hdb : (x == ("__debug__" : Str)) = false := by decide) (he : starEach (e :: es) X.env = (false, eval e X.env) :: starEach es X.env := by rfl) (hpl : (backTo pos (starEach es X.env)).any (·.1) = false := by rfl) :
    PE X (.Call (.Name x p) (e :: es) [] pos) (tCall sp dvs E t) := by
  constructor
  intro pins s σ H Q I z
  refine wpAny_Call_Name_kw (ld_glob I hg hm (PySem.W.callWith_K (h₀ := X.base) I.ok.mod.kin hk ?_ he hpl) hdb)
  exact thn (ha.run pos pins s σ H _ I z) fun gs s1 ⟨us, H1, J, r, q⟩ => ⟨J.kIn, goG F hr hgd hb hd hx J r q⟩
end
section
variable {P : Program} {w : World} {K : PySem.W.Frag} {mg : Str → Option Value} {base : Heap}
/-- a def, from its body -/
theorem fnG_of {CX : CXT} {k : Nat} {x qual : Str} {st : Stmt} {f : Addr} {fd : FuncData} {N ps : List Str} {sp : Sp} (F : Fun K x qual st f fd) (S : FnScope N ps (defScope st)) (many : ∀ us H Q E, sp us H Q E → us.length = ps.length)
    (hbody : ∀ (cdv : Value) (A : Around) (out : List Env) (t : Shared) (H : Hp) (us : List V) (Q : VK) (E : XK), Room k (A.deeper (envOfC qual (defScope st) t.heap.objs.size f cdv)) → A.guards = some [] → sp us H Q E →
      ∃ r, PSs (cxOf CX P w K mg base N qual (defScope st) f cdv A out t H E) (defBody st) r ∧ r { nx := fun _ H' => Q .non H', rt := Q } (L2.start N us) H) : FnG P w K mg base CX (k + 1) f fd ps sp := by
  obtain ⟨oc, od, kV, doc, pm, an, cdv, ct, osl, hfd, look, code⟩ := F.ex
  subst hfd
  constructor
  · exact many
  intro A out t H ar gs us Q E room hgd e0 bind vals want
  have kept : ∀ b o, base.get? b = some o → t.heap.get? b = some o := fun b o z => (e0.bs b o z).1
  have inK : K.In t.heap := e0.mod.kin.keeps kept
  have par : ∀ y ∈ ps.zip gs, (defScope st).names.lookup y.1 = some .local ∨ ((defScope st).names.lookup y.1 = some .cell ∧ ((cellsFrom (t.heap.objs.size + 1) (defScope st).names []).lookup y.1).isSome = true) := by
    intro y hy
    have hy1 : y.1 ∈ ps := by
      obtain ⟨n, v⟩ := y
      exact (List.of_mem_zip hy).1
    exact (S.par y.1 hy1).imp id fun z => ⟨z, PySem.W.cellsFrom_some _ _ _ (.inl z)⟩
  refine codeAny_call_function room.depth (inK _ _ look) rfl S.co S.gen rfl (PySem.W.codeRec_of inK code) (bind _ _ _ _ ?_)
  refine wpAny_newFunctionEnv_cells S.kind par fun env heq t1 x => ?_
  subst heq
  refine ⟨(e0.mod.nolimit.keeps kept).keeps x.toInCall.keep, codeAny_func ?_⟩
  obtain ⟨r, hr, hq⟩ := hbody cdv A out t H us Q E (room.deeper _) hgd want
  have I0 := inv_start (CX := CX) (E := E) S room.hd e0 (many _ _ _ _ want) vals x
  refine wpAny_mono (hr.run [] t1 (L2.start N us) H _ I0 hq) (fun fl t2 z => ?_) fun _ _ z => z
  have fin : ∀ {σ' : L2.St} {H' : Hp} {v : V} {u : Value}, Inv (cxOf CX P w K mg base N qual (defScope st) f cdv A out t H E) [] σ' H' t2 → RelV v u → Q v H' → CE out P w H t Q u t2 := fun {σ' H' v u} J rv q => ⟨v, H', J.os, J.bare, J.base, J.hok, rv, q⟩
  cases fl with
  | ret u => obtain ⟨v, σ', H', J, rv, q⟩ := z; exact fin J rv q
  | next => obtain ⟨σ', H', J, q⟩ := z; exact fin (v := V.non) (u := Value.none) J rfl q
  | brk => obtain ⟨σ', H', J, q⟩ := z; exact False.elim q
  | cont => obtain ⟨σ', H', J, q⟩ := z; exact False.elim q
end
end Pu
set_option maxRecDepth 100000
set_option maxHeartbeats 1000000
namespace Pu
open PySem L2 PySem.Spec PyProof.Rows
/-- what stands behind the top: the script alone may be tracked -/
theorem lawG_at {P : Program} {w : World} {K : PySem.W.Frag} {mg mb : Str → Option Value} {k : Nat} {fa a : Addr} {fd : FuncData} {x : Str} {sp : Sp} {s0 : Shared} {us : List Value} {H : Hp}
    (inK : K.In s0.heap) (ns1 : s0.heap.Ns mainGlobals mg) (ns2 : s0.heap.Ns builtinsNs mb) (boot : ∀ y : Str, y ≠ "__name__" → mb y = bootBuiltins y) (lim : s0.heap.NoLimit) (gen : s0.gens = #[])
    (obj : s0.heap.get? a = some { cls := .type "list", data := .seq us.toArray }) (room : Room k callerA)
    (F : ∀ base : Heap, K.In base → base.Ns mainGlobals mg → FnG P w K mg base CX0 k fa fd [x] sp) (bind : ∀ (s : Shared) (u : Value), BindsTo s fd ⟨[u], []⟩ [(x, u)])
    (only : Only H) (want : sp [.ref a] H (fun v _ => v = .bl true) fun _ _ _ => False) (ok : HOk P w H s0.heap) (one : ∀ b, H b ≠ none → b = a) (out : H a ≠ none → K.lookup a = none) :
    codeAny (model P w) callerA (.call (.ref fa) ⟨[.ref a], []⟩) (fun r s' => r = .ok (.ret (.bool true)) ∧ OldK s0.heap s'.heap ∧ s'.os = s0.os ∧ AllBare s'.gens) s0 := by
  have hid : ∀ {b : Addr} {o : Obj}, s0.heap.get? b = some o → H b = none → (hidT s0.heap H).get? b = some o := fun z n => hidT_get z n
  have nodict : ∀ {b : Addr} {o : Obj} {es : Array DictEntry} {ep : Nat}, s0.heap.get? b = some o → o.data = .dict es ep → H b = none := by
    intro b o es ep z d
    cases q : H b with
    | none => rfl
    | some u =>
      have hb := one b (by rw [q]; exact fun y => nomatch y)
      rw [hb, obj] at z
      cases z
      cases (show Data.seq us.toArray _ = Data.dict es ep from d)
  have ns : ∀ {b : Addr} {m : Str → Option Value}, s0.heap.Ns b m → (hidT s0.heap H).Ns b m := by
    rintro b m ⟨o, es, ep, z, d, r⟩
    exact ⟨o, es, ep, hid z (nodict z d), d, r⟩
  have inB : K.In (hidT s0.heap H) := by
    intro b o z
    refine hid (inK b o z) ?_
    cases q : H b with
    | none => rfl
    | some u =>
      have hb := one b (by rw [q]; exact fun y => nomatch y)
      subst hb
      rw [out (by rw [q]; exact fun y => nomatch y)] at z
      cases z
  obtain ⟨mc, l1, l2⟩ := lim
  have env : Env0 P w K mg (hidT s0.heap H) callerA [] s0 H :=
    ⟨rfl, ⟨inB, ns ns1, ⟨mb, ns ns2, boot⟩, ⟨mc, ns l1, l2⟩⟩, fun b o z => of_hidT z, Nat.le_of_eq (hidT_size _ _), trivial, fun b hb => (List.not_mem_nil hb).elim, ok, .of_eq gen⟩
  have run := (F _ inB (ns ns1)).go callerA [] s0 H ⟨[.ref a], []⟩ [.ref a] [.ref a] _ _ room rfl env (bind s0 (.ref a)) (.cons rfl .nil) want
  refine codeAny_mono run fun r s' z => ?_
  cases r with
  | error e => exact False.elim z
  | ok fl =>
    cases fl with
    | next => exact False.elim z
    | brk => exact False.elim z
    | cont => exact False.elim z
    | ret u =>
      obtain ⟨v, H', os, bare, un, ok', rel, q⟩ := z
      have q : v = .bl true := q
      subst q
      have rel : u = Value.bool true := rel
      subst rel
      refine ⟨rfl, OldK.of_keep ?_, os, bare⟩
      intro b o z
      cases q : H b with
      | none => exact un.keep b o z q (fun y => List.not_mem_nil y) (fun y => List.not_mem_nil y)
      | some u =>
        rcases only b with y | ⟨ob, xs, y⟩
        · rw [q] at y; cases y
        · have y1 := (ok b _ y).1
          have y2 := (ok' b _ (un.frzs b ob _ y)).1
          rw [z] at y1
          cases y1
          exact y2
theorem walkG {l : PySem.W.OpenLaw} {q : Program} {loose : List Str} {XP : (Str → Option Value) → Heap → Prop} {YP : World → Heap → Prop} {d : DefRec} {K : Params → PySem.W.Frag} {k : Nat} {sp : PySem.W.Frag → Sp} (room : Room k callerA) (most : l.most = some 63) (nodef : d.params.defaults = [])
    (hY : ∀ (w : World) (h : Heap), YP w h → (K w.params).In h)
    (F : ∀ (w : World) (mg : Str → Option Value) (fa : Addr) (h : Heap), (K w.params).In h → h.Ns mainGlobals mg → mg d.name = some (.ref fa) →
      ∃ fd : FuncData, (∀ (s : Shared) (u : Value), BindsTo s fd ⟨[u], []⟩ [("_law_script", u)]) ∧ ∀ base : Heap, (K w.params).In base → base.Ns mainGlobals mg → FnG l.prog w (K w.params) mg base CX0 k fa fd ["_law_script"] (sp (K w.params)))
    (hsp : ∀ (w : World) (H : Hp) (a : Addr) (ns : List Int), ns.length ≤ 63 → SqL (K w.params) H a (ns.map V.int) → sp (K w.params) [.ref a] H (fun v _ => v = .bl true) fun _ _ _ => False) :
    PySem.W.WalkO q loose XP YP l.row.toRowW d [] (fun f vs => PySem.call f vs) := by
  refine Att.attach_call most nodef ?_
  intro w s1 s0 mg mb fa o pm cd doc a us ns G Y ho hd hcd hmg obj areI len gen
  have inK := hY w _ Y
  obtain ⟨fd, bind, F⟩ := F w mg fa _ inK G.T.g hmg
  have lens := areI.length
  have vals := vals_ints areI
  have short : ns.length ≤ sizeLine := Nat.le_trans len (by decide)
  have go := fun (H : Hp) (o1 : Only H) (o2 : SqL (K w.params) H a (ns.map V.int)) => lawG_at (H := H) inK G.T.g G.T.b G.T.builtins G.T.nolimit gen obj room F bind o1 (hsp w H a ns len o2)
  cases hk : (K w.params).lookup a with
  | some o' =>
    have z := inK a o' hk
    rw [obj] at z
    cases z
    refine go (fun _ => none) (fun _ => .inl rfl) (.inr ⟨_, us.toArray, _, hk, rfl, rfl, rfl, ?_, by simpa using vals⟩) (fun b u z => nomatch z) (fun b z => absurd rfl z) fun z => absurd rfl z
    rw [List.size_toArray, lens]
    exact short
  | none =>
    have at_ : ∀ b, b ≠ a → (if b = a then some (HO.frz { cls := .type "list", data := .seq us.toArray } (.lst (ns.map V.int))) else none) = none := fun b z => if_neg z
    refine go (fun b => if b = a then some (.frz { cls := .type "list", data := .seq us.toArray } (.lst (ns.map V.int))) else none) (fun b => ?_) (.inl (.inr ⟨_, if_pos rfl⟩)) (fun b u z => ?_) (fun b z => ?_) fun _ => hk
    · by_cases y : b = a
      · right; exact ⟨_, _, if_pos y⟩
      · left; exact at_ b y
    · by_cases y : b = a
      · subst y
        cases (if_pos rfl).symm.trans z
        exact ⟨obj, by rw [List.length_map]; exact short, us, _, vals, obj⟩
      · cases (at_ b y).symm.trans z
    · exact Decidable.byContradiction fun y => z (at_ b y)
end Pu
set_option maxRecDepth 100000
set_option maxHeartbeats 2000000
namespace PuE
open PySem PySem.Spec PyProof.Rows L2 RT PySem.W
def IsRs (h : Heap) (a : Addr) (x : Str) (t : Tok) (i : Int) : Prop := ∃ o, h.get? a = some o ∧ o.cls = .type "reversed" ∧ o.data = .fields #[.str x t, rawInt i]
section
variable {prog : Program} {w : World} {A : Around} {E : Value → Shared → Prop} {s : Shared}
theorem IsRs.typeIs {a : Addr} {x : Str} {t : Tok} {i : Int} (y : IsRs s.heap a x t i) : s.TypeIs (.ref a) "reversed" := let ⟨o, ho, hc, _⟩ := y; ⟨o, ho, hc⟩
end
end PuE
set_option maxRecDepth 100000
set_option maxHeartbeats 4000000
namespace Pu
open PySem L2 PySem.Spec PyProof.Rows
section
variable {Γ Γ' : Gm} {κ κ' : Ka} {H H' : Hp} {env env' : En} {σ : Sl} {v : V} {st : Sto} {Y : Fam} {a b e : Expr} {es : List Expr} {ta tb te : PTE} {pos : Pos}
theorem ve_lc {scope : Scope} {tg it elt : Expr} {ifs : List Expr} {own : List (Str × Nat)} {ti : PTI} {g : PTG} {tt : PTT} {vs : List Nat} (hN : ∀ i, (Y.X i).N.Nodup) (hi : VI Y tg it ti) (ok : ∀ i, BlkOk (Y.X i).N (Y.X i).env.scope scope own) (hg : VG (Y.blk scope) tg vs g) (ht : VTs (Y.blk scope) ifs tt) (he : VE (Y.blk scope) elt te)
    (hv : own.map (·.2) = vs := by rfl) (hc : ∀ i, (Y.X i).calm = true := by intro _; rfl) (hs : ∀ (X : Cx) x, foldedSetIterable it X.env x = pure x := by intro _ _; rfl) : VE Y (.ListComp elt [⟨tg, it, ifs, 0⟩] scope pos) (cLc ti g tt te vs) := by
  obtain ⟨ri, pi, fi⟩ := hi.ex
  obtain ⟨rg, pg, fg⟩ := hg.ex
  obtain ⟨rt, pt, ft⟩ := ht.ex
  obtain ⟨re, pe, fe⟩ := he.ex
  have pg' : ∀ (i : Y.ι) (s : Shared) (H : Hp) (C : Addr) (cl : List (Str × Addr)) (fp : List Addr), PG ((Y.X i).blk s H scope (compEnvC scope cl C (Y.X i).env) fp) tg rg := fun i s H C cl fp => pg (i, s, H, C, cl, fp)
  have pt' : ∀ (i : Y.ι) (s : Shared) (H : Hp) (C : Addr) (cl : List (Str × Addr)) (fp : List Addr), PTs ((Y.X i).blk s H scope (compEnvC scope cl C (Y.X i).env) fp) ifs (rt E0) := fun i s H C cl fp => pt (i, s, H, C, cl, fp)
  have pe' : ∀ (i : Y.ι) (s : Shared) (H : Hp) (C : Addr) (cl : List (Str × Addr)) (fp : List Addr), PE ((Y.X i).blk s H scope (compEnvC scope cl C (Y.X i).env) fp) elt (re E0) := fun i s H C cl fp => pe (i, s, H, C, cl, fp)
  refine ⟨⟨fun E => L2.tLc (ri E) rg (rt E0) (re E0) (own.map (·.2)), fun i => pe_lc (hc i) (hN i) (pi i) (ok i) (pg' i) (pt' i) (pe' i) (hs _), fun Γ σ κ H env Q Q' hK I q k => ?_⟩⟩
  exact lc_ref (it := it) (elt := elt) (ifs := ifs) (tg := tg) hv fi fg (fun Γ σ κ H env Q Q' gk eE I q k => by rw [← eE]; exact ft Γ σ κ H env Q Q' gk I q k) (fun Γ σ κ H env Q Q' gk eE I q k => by rw [← eE]; exact fe Γ σ κ H env Q Q' gk I q k) hK I q k
theorem vs_setLc {i : Nat} {y : Str} {py spos : Pos} {scope : Scope} {tg it elt : Expr} {ifs : List Expr} {own : List (Str × Nat)} {ti : PTI} {g : PTG} {tt : PTT} {vs : List Nat} (hN : ∀ i, (Y.X i).N.Nodup) (hi : VI Y tg it ti) (ok : ∀ i, BlkOk (Y.X i).N (Y.X i).env.scope scope own) (hg : VG (Y.blk scope) tg vs g) (ht : VTs (Y.blk scope) ifs tt) (he : VE (Y.blk scope) elt te)
    (hy : ∀ j, (Y.X j).N[i]? = some y := by intro _; rfl) (hyl : ∀ j, (Y.X j).env.scope.names.lookup y = some .local := by intro _; rfl)
    (hsw : ∀ j, swapsWith (.ListComp elt [⟨tg, it, ifs, 0⟩] scope pos) (some (.Name y py)) spos.line (Y.X j).env = pure true := by intro _; exact sw_true rfl rfl rfl (by decide +kernel))
    (hv : own.map (·.2) = vs := by rfl) (hc : ∀ i, (Y.X i).calm = true := by intro _; rfl) (hs : ∀ (X : Cx) x, foldedSetIterable it X.env x = pure x := by intro _ _; rfl) :
    VS Y (.Assign [.Name y py] (.ListComp elt [⟨tg, it, ifs, 0⟩] scope pos) spos) (sAsg i (cLc ti g tt te vs)) := by
  obtain ⟨ri, pi, fi⟩ := hi.ex
  obtain ⟨rg, pg, fg⟩ := hg.ex
  obtain ⟨rt, pt, ft⟩ := ht.ex
  obtain ⟨re, pe, fe⟩ := he.ex
  have pg' : ∀ (i : Y.ι) (s : Shared) (H : Hp) (C : Addr) (cl : List (Str × Addr)) (fp : List Addr), PG ((Y.X i).blk s H scope (compEnvC scope cl C (Y.X i).env) fp) tg rg := fun i s H C cl fp => pg (i, s, H, C, cl, fp)
  have pt' : ∀ (i : Y.ι) (s : Shared) (H : Hp) (C : Addr) (cl : List (Str × Addr)) (fp : List Addr), PTs ((Y.X i).blk s H scope (compEnvC scope cl C (Y.X i).env) fp) ifs (rt E0) := fun i s H C cl fp => pt (i, s, H, C, cl, fp)
  have pe' : ∀ (i : Y.ι) (s : Shared) (H : Hp) (C : Addr) (cl : List (Str × Addr)) (fp : List Addr), PE ((Y.X i).blk s H scope (compEnvC scope cl C (Y.X i).env) fp) elt (re E0) := fun i s H C cl fp => pe (i, s, H, C, cl, fp)
  refine ⟨⟨fun E => tAsg (L2.tLc (ri E) rg (rt E0) (re E0) (own.map (·.2))) (L2.gName i), fun j => ps_setLc (hc j) (hN j) (hy j) (hyl j) (hsw j) (pi j) (ok j) (pg' j) (pt' j) (pe' j) (hs _), fun Γ σ κ H env D D' hK I q l => ?_⟩⟩
  refine lc_ref (it := it) (elt := elt) (ifs := ifs) (tg := tg) hv fi fg (fun Γ σ κ H env Q Q' gk eE I q k => by rw [← eE]; exact ft Γ σ κ H env Q Q' gk I q k) (fun Γ σ κ H env Q Q' gk eE I q k => by rw [← eE]; exact fe Γ σ κ H env Q Q' gk I q k) hK I q fun v κ1 H1 r1 e1 x1 I1 h1 q1 => ?_
  exact asg_ok I1 (by rw [I1.len]; exact q1.1) h1 q1.2 fun κ2 e2 x2 I2 q2 => l.1 _ κ2 H1 e2 (x1.trans x2) I2 q2
abbrev PM := List D → Sto → (C → Sto → Prop) → Prop
/-- a def that raises nothing, by its pure promise -/
def sp0 (K : PySem.W.Frag) (cls : Cl) (flds : Nat → List Str) (m : PM) : Sp := fun vs H Q _ => ∃ (κ : Ka) (ds : List D) (st : Sto) (Q' : C → Sto → Prop),
  Gh ⟨K, H, κ, cls, flds, E0, noX⟩ κ st H ∧ RepL K cls κ H vs ds ∧ m ds st Q' ∧
  ∀ v κ' H' c st', Gh ⟨K, H, κ, cls, flds, E0, noX⟩ κ' st' H' → RelC ⟨K, H, κ, cls, flds, E0, noX⟩ κ' H' v c → Q' c st' → Q v H'
def C.toR (c : C) : R := match c with
  | .un => .d .non
  | .d y => .d y
  | .own ys => .own ys
  | .dK ys => .dK ys
  | .dT ys => .dT ys
def tCall0 (m : PM) (t : PTA) : PTE := fun x e Q => t x e fun ds e1 => m ds e1.st fun c st' => Q c.toR ⟨e1.sl, st'⟩
theorem Gh.enter {E' : XK} {x' : PX} (I : Rl Γ κ env σ H) : Gh ⟨Γ.K, H, κ, Γ.cls, Γ.flds, E', x'⟩ κ env.st H := by
  have g := I.gh
  refine ⟨fun _ _ e => e, fun _ _ e => .inl e, g.trk, fun _ e => e, g.box, fun a k e => ?_, g.inj, fun a o e _ => e⟩
  obtain ⟨so, h1, h2⟩ := g.obj a k e
  exact ⟨so, h1, h2.switch rfl rfl⟩
theorem Gh.leave {E' : XK} {x' : PX} {st' : Sto} (g : Gh Γ κ st H) (h : Gh ⟨Γ.K, H, κ, Γ.cls, Γ.flds, E', x'⟩ κ' st' H') : Gh Γ κ' st' H' := by
  refine ⟨fun a x e => h.sub a x (g.sub a x e), fun a x e => ?_, h.trk, fun a e => h.trk0 a (g.trk0 a e), h.box, fun a k e => ?_, h.inj, fun a o e hk => ?_⟩
  · rcases h.new a x e with z | z | ⟨z1, vs, z⟩
    · exact g.new a x z
    · exact .inr (.inl (g.nokap0 z))
    · cases q0 : Γ.H0 a with
      | none => exact .inr (.inl rfl)
      | some o =>
        cases qk : Γ.k0 a with
        | none =>
          have z : H a = some (.tup vs) := z
          have := g.base a o q0 (.inl qk)
          rw [z] at this
          exact .inr (.inr ⟨z1, vs, this.symm⟩)
        | some y =>
          have := h.sub a y (g.sub a y qk)
          rw [e] at this
          exact .inl this.symm
  · obtain ⟨so, h1, h2⟩ := h.obj a k e
    exact ⟨so, h1, h2.switch rfl rfl⟩
  · refine h.base a o (g.base a o e hk) ?_
    show κ a = none ∨ κ a = some .frz
    rcases hk with hk | hk
    · cases q : κ a with
      | none => exact .inl rfl
      | some x =>
        rcases g.new a x q with z | z | ⟨z, _⟩
        · rw [hk] at z; cases z
        · rw [e] at z; cases z
        · exact .inr (by rw [z])
    · exact .inr (g.sub a _ hk)
theorem Ext.leave {E' : XK} {x' : PX} {st' : Sto} (g : Gh Γ κ st H) (h : Gh ⟨Γ.K, H, κ, Γ.cls, Γ.flds, E', x'⟩ κ' st' H') : Ext κ H κ' H' := by
  refine ⟨h.sub, fun a e => ?_⟩
  cases q : H a with
  | none => exact absurd q (g.trk a _ e)
  | some o => exact h.base a o q (.inr e)
theorem Rl.leave {E' : XK} {x' : PX} {st' : Sto} (I : Rl Γ κ env σ H) (h : Gh ⟨Γ.K, H, κ, Γ.cls, Γ.flds, E', x'⟩ κ' st' H') : Rl Γ κ' ⟨env.sl, st'⟩ σ H' := by
  refine I.step (Ext.leave I.gh h) (fun i a hs => ?_) (I.gh.leave h)
  obtain ⟨c, _, hc⟩ := I.ownS hs
  obtain ⟨k1, _, k3⟩ := hc.facts
  constructor
  · cases q : κ' a with
    | none => rfl
    | some x =>
      rcases h.new a x q with z | z | ⟨_, vs, z⟩
      · have z : κ a = some x := z
        rw [k1] at z; cases z
      · exact absurd z k3
      · exact (hc.notTup z).elim
  · cases q : H a with
    | none => exact absurd q k3
    | some o => exact h.base a o q (.inl k1)
theorem RelC.leave {E' : XK} {x' : PX} {st' : Sto} {c : C} (I : Rl Γ κ env σ H) (h : RelC ⟨Γ.K, H, κ, Γ.cls, Γ.flds, E', x'⟩ κ' H' v c) : RelR Γ κ' H' ⟨env.sl, st'⟩ σ v c.toR := by
  have low : ∀ a, H a = none → Γ.H0 a = none := fun a z => I.gh.nokap0 z
  have ns : ∀ a, H a = none → ∀ i, ¬ OwnS ⟨env.sl, st'⟩ σ i a := fun a z i hs => I.fresh z i hs
  cases c with
  | un => exact h.elim
  | d d => exact h
  | own ds => obtain ⟨a, rfl, h1⟩ := h; exact ⟨a, rfl, OwnC.switch (Γ := ⟨Γ.K, H, κ, Γ.cls, Γ.flds, E', x'⟩) (Γ' := Γ) rfl rfl (low a h1.facts.2.1) h1, ns a h1.facts.2.1⟩
  | dK ds => obtain ⟨a, rfl, h1⟩ := h; exact ⟨a, rfl, OwnC.switch (Γ := ⟨Γ.K, H, κ, Γ.cls, Γ.flds, E', x'⟩) (Γ' := Γ) rfl rfl (low a h1.facts.2.1) h1, ns a h1.facts.2.1⟩
  | dT ds => obtain ⟨a, rfl, h1⟩ := h; exact ⟨a, rfl, OwnC.switch (Γ := ⟨Γ.K, H, κ, Γ.cls, Γ.flds, E', x'⟩) (Γ' := Γ) rfl rfl (low a h1.facts.2.1) h1, ns a h1.facts.2.1⟩
/-- a call of a def of the text that raises nothing -/
theorem ve_call0 {k : Nat} {f : Addr} {fd : FuncData} {ps : List Str} {x : Str} {p : Pos} {m : PM} {t : PTA} (F : ∀ i, FnG (Y.X i).prog (Y.X i).w (Y.X i).K (Y.X i).mg (Y.X i).base CX0 k f fd ps (sp0 Y.K Y.cls Y.flds m)) (hr : ∀ i, Room k (Y.X i).A) (hgd : ∀ i, (Y.X i).A.guards = some []) (hm : ∀ i, (Y.X i).mg x = some (.ref f)) (hk : PySem.W.keepIn Y.K (.ref f) = true) (hb : Binds Y.K fd ps [])
    (ha : VA Y (e :: es) t) (hg : ∀ i, Gl (Y.X i) x := by intro _; rfl) (hdb : (x == ("__debug__" : Str)) = false := by decide) (he : ∀ X : Cx, starEach (e :: es) X.env = (false, eval e X.env) :: starEach es X.env := by intro _; rfl) (hpl : ∀ X : Cx, (backTo pos (starEach es X.env)).any (·.1) = false := by intro _; rfl) :
    VE Y (.Call (.Name x p) (e :: es) [] pos) (tCall0 m t) := by
  obtain ⟨ra, pa, fa⟩ := ha.ex
  refine ⟨⟨fun E => tCall (sp0 Y.K Y.cls Y.flds m) [] E0 (ra E), fun i => pe_callG (F i) (hr i) (hgd i) (hg i) (hm i) (by rw [Y.hK i]; exact hk) (by rw [Y.hK i]; exact hb) .nil pass0 (pa i) hdb (he _) (hpl _), fun Γ σ κ H env Q Q' hK I q k => ?_⟩⟩
  refine fa Γ σ κ H env _ _ hK I q fun vs κ1 H1 ds e1 x1 I1 h1 q1 => ?_
  rw [List.append_nil, ← hK.k, ← hK.c, ← hK.f]
  refine ⟨κ1, ds, e1.st, _, Gh.enter I1, h1, q1, fun v κ' H' c st' g r q => ?_⟩
  exact k v κ' H' c.toR ⟨e1.sl, st'⟩ (x1.trans (Ext.leave I1.gh g)) (I1.leave g) (RelC.leave I1 r) q
/-- where a def's body runs -/
structure DI (qual : Str) (sc : Scope) (f : Addr) (k : Nat) where
  cdv : Value
  A : Around
  outer : List Env
  s : Shared
  H : Hp
  E : XK
  hr : Room k (A.deeper (envOfC qual sc s.heap.objs.size f cdv))
  gd : A.guards = some []
def fam0 (P : Program) (w : World) (K : PySem.W.Frag) (mg : Str → Option Value) (base : Heap) (N : List Str) (qual : Str) (sc : Scope) (f : Addr) (k : Nat) (cls : Cl) (flds : Nat → List Str) : Fam where
  ι := DI qual sc f k
  X := fun i => (cxOf CX0 P w K mg base N qual sc f i.cdv i.A i.outer i.s i.H i.E).nox
  E := fun _ => E0
  K := K
  hK := fun _ => rfl
  cls := cls
  flds := flds
def startC (N : List Str) (ds : List D) : List C := ds.map C.d ++ List.replicate (N.length - ds.length) C.un
theorem start_rl {N : List Str} {vs : List V} {ds : List D} {K : PySem.W.Frag} {cls : Cl} {flds : Nat → List Str} {E : XK} {x : PX} (g : Gh ⟨K, H, κ, cls, flds, E, x⟩ κ st H) (r : RepL K cls κ H vs ds) : Rl ⟨K, H, κ, cls, flds, E, x⟩ κ ⟨startC N ds, st⟩ (L2.start N vs) H := by
  refine ⟨by unfold L2.start startC; simp [r.length], fun i c ec => ?_, fun i j a h1 _ => ?_, g⟩
  · have ec : (startC N ds)[i]? = some c := ec
    unfold startC at ec
    by_cases hi : i < ds.length
    · rw [List.getElem?_append_left (by simpa using hi), List.getElem?_map, List.getElem?_eq_getElem hi] at ec
      cases ec
      obtain ⟨v, e1, r1⟩ := r.get (List.getElem?_eq_getElem hi)
      refine ⟨v, ?_, r1⟩
      unfold L2.start
      rw [List.getElem?_append_left (by rw [List.length_map, r.length]; exact hi), List.getElem?_map, e1]
      rfl
    · rw [List.getElem?_append_right (by simpa using hi), List.getElem?_replicate] at ec
      split at ec
      · cases ec; trivial
      · cases ec
  · obtain ⟨_, c, ec, hc⟩ := h1
    have ec : (startC N ds)[i]? = some c := ec
    unfold startC at ec
    by_cases hi : i < ds.length
    · rw [List.getElem?_append_left (by simpa using hi), List.getElem?_map, List.getElem?_eq_getElem hi] at ec
      cases ec
      cases hc
    · rw [List.getElem?_append_right (by simpa using hi), List.getElem?_replicate] at ec
      split at ec
      · cases ec; cases hc
      · cases ec
/-- THE RULE for a def that raises nothing -/
theorem fn0 {P : Program} {w : World} {K : PySem.W.Frag} {mg : Str → Option Value} {base : Heap} {N ps : List Str} {x qual : Str} {st : Stmt} {f : Addr} {fd : FuncData} {k : Nat} {cls : Cl} {flds : Nat → List Str} {t : PTS} {m : PM}
    (F : Fun K x qual st f fd) (S : FnScope N ps (defScope st)) (h : VSs (fam0 P w K mg base N qual (defScope st) f k cls flds) (defBody st) t) (len : ∀ ds s Q, m ds s Q → ds.length = ps.length)
    (ok : ∀ ds s Q, m ds s Q → t noX { nx := fun e => Q (.d .non) e.st, rt := fun c e => Q c e.st } ⟨startC N ds, s⟩) : FnG P w K mg base CX0 (k + 1) f fd ps (sp0 K cls flds m) := by
  refine fnG_of F S (fun vs H Q E hq => ?_) (fun cdv A outer s H vs Q E hr gd hq => ?_)
  · obtain ⟨κ, ds, st, Q', g, r, hm, _⟩ := hq
    rw [r.length]
    exact len ds st Q' hm
  · obtain ⟨κ, ds, st', Q', g, r, hm, fin⟩ := hq
    obtain ⟨rd, ph, fh⟩ := h.ex
    refine ⟨rd E0, (ph ⟨cdv, A, outer, s, H, E, hr, gd⟩).nox, ?_⟩
    refine fh ⟨K, H, κ, cls, flds, E0, noX⟩ (L2.start N vs) κ H ⟨startC N ds, st'⟩ _ _ ⟨rfl, rfl, rfl, fun _ _ _ _ _ _ _ _ z _ _ => False.elim z⟩ (start_rl g r) (ok ds st' Q' hm) ⟨fun σ' κ' H' e' x I q => ?_, fun v κ' H' c e' x gg rr q => fin v κ' H' c e'.st gg rr q, fun _ _ _ _ _ _ q => False.elim q, fun _ _ _ _ _ _ q => False.elim q⟩
    exact fin .non κ' H' (.d .non) e'.st I.gh .non q
/-- a weaker promise -/
theorem FnG.imp0 {P : Program} {w : World} {K : PySem.W.Frag} {mg : Str → Option Value} {base : Heap} {ps : List Str} {f : Addr} {fd : FuncData} {k : Nat} {cls : Cl} {flds : Nat → List Str} {m m' : PM}
    (F : FnG P w K mg base CX0 k f fd ps (sp0 K cls flds m)) (h : ∀ ds s Q, m' ds s Q → m ds s Q) : FnG P w K mg base CX0 k f fd ps (sp0 K cls flds m') :=
  F.imp fun vs H Q E ⟨κ, ds, st, Q', g, r, hm, fin⟩ => ⟨κ, ds, st, Q', g, r, h _ _ _ hm, fin⟩
end
end Pu
set_option maxRecDepth 100000
set_option maxHeartbeats 4000000
namespace Pu
open PySem L2
section
variable {Γ Γ' : Gm} {κ κ' : Ka} {H H' : Hp} {env env' : En} {σ : Sl} {v : V} {st : Sto} {Y : Fam} {a b e o : Expr} {es : List Expr} {ta tb te to : PTE} {pos : Pos}
def MtRef (T : String) (r : PySem.W.Frag → V → List V → Hp → VK → Prop) (p : D → List D → (R → Prop) → Prop) : Prop :=
  ∀ (Γ : Gm) (σ : Sl) (κ : Ka) (H : Hp) (env : En) (v : V) (d : D) (vs : List V) (ds : List D) (Q : R → Prop) (Q' : VK), Rl Γ κ env σ H → RepT Γ κ H v d → RepTL Γ κ H vs ds → p d ds Q →
    (∀ v' κ' H' r, Ext κ H κ' H' → Rl Γ κ' env σ H' → RelR Γ κ' H' env σ v' r → Q r → Q' v' H') → r Γ.K v vs H Q'
/-- what is of a built-in type, at its top -/
def D.isTy (T : String) : D → Prop
  | .str _ => T = "str"
  | .lst _ => T = "list"
  | _ => False
theorem tyV_of {T : String} {d : D} (h : RepT Γ κ H v d) (e : d.isTy T) : tyV Γ.K T v H := by
  cases d with
  | str s => obtain ⟨rfl, _⟩ := Rep.strE h; exact e
  | lst ds => obtain ⟨a, vs, rfl, h1, _⟩ := h; exact .inl ⟨e, vs, SqL.of h1⟩
  | _ => exact e.elim
def tMeth (T : String) (p : D → List D → (R → Prop) → Prop) (to : PTE) (t : PTR) : PTE := fun x e Q => to x e fun r e1 => hold r e1 fun r e1 => (match rv r e1 with
  | some d => d.isTy T
  | none => False) ∧ t x e1 fun rs e2 => match rv r e2, rvL rs e2 with
    | some d, some ds => p d ds (fun r => Q r e2)
    | _, _ => False
theorem ve_meth {id T : String} {name : Str} {apos cpos : Pos} {r : PySem.W.Frag → V → List V → Hp → VK → Prop} {p : D → List D → (R → Prop) → Prop} {t : PTR} (pa : PlainAttrs T) (slot : Slot T name id) (hty : typeOf (.builtin id) = pure (.type "method_descriptor")) (hm : ∀ i, MtR (Y.X i) id (r (Y.X i).K)) (hr : MtRef T r p) (ho : VE Y o to) (ha : VR Y (e :: es) t)
    (hbase : ∀ X : Cx, attributeBase o name X.env (eval o X.env) = eval o X.env := by intro _; rfl)
    (hfew : ∀ X : Cx, ((backTo cpos (starEach (e :: es) X.env)).all (fun x => !x.1) && (backToKw cpos (keywordEach [] X.env)).all (fun x => x.1.isSome)
      && decide ((e :: es).length + ([] : List Keyword).length + (if ([] : List Keyword).isEmpty then 0 else 1) < 30)) = true := by intro _; rfl)
    (hline : (apos.endLine == cpos.line) = true := by rfl) (hs : ∀ X : Cx, starEach (e :: es) X.env = (false, eval e X.env) :: starEach es X.env := by intro _; rfl) (hplain : ∀ X : Cx, (backTo cpos (starEach es X.env)).any (·.1) = false := by intro _; rfl) :
    VE Y (.Call (.Attribute o name apos) (e :: es) [] cpos) (tMeth T p to t) := by
  obtain ⟨ro, po, fo⟩ := ho.ex
  obtain ⟨ra, pa', fa⟩ := ha.ex
  refine ⟨⟨fun E => tBM Y.K T (r Y.K) (ro E) (ra E), fun i => ?_, fun Γ σ κ H env Q Q' hK I q k => ?_⟩⟩
  · have h1 := hm i
    have h2 := pe_bm pa slot hty h1 (po i) (pa' i) (hbase _) (hfew _) hline (hs _) (hplain _)
    rw [Y.hK i] at h2
    exact h2
  · refine fo Γ σ κ H env _ _ hK I q fun v κ1 H1 r1 e1 x1 I1 h1 q1 => ?_
    refine hold_ok I1 h1 q1 fun κ2 r2 x2 I2 h2 q2 => ?_
    obtain ⟨q2a, q2⟩ := q2
    rw [← hK.k]
    constructor
    · cases e' : rv r2 e1 with
      | none => rw [e'] at q2a; exact q2a.elim
      | some d => rw [e'] at q2a; exact tyV_of (rv_ok I2 h2.rel e') q2a
    · refine fa Γ σ κ2 H1 e1 _ _ hK I2 q2 fun vs κ3 H3 rs e3 x3 I3 h3 q3 => ?_
      have h2' : RelR Γ κ3 H3 e3 σ v r2 := (h2.ext x3).rel
      cases e1' : rv r2 e3 with
      | none => rw [e1'] at q3; exact False.elim q3
      | some d1 =>
        cases e2' : rvL rs e3 with
        | none => rw [e1', e2'] at q3; exact False.elim q3
        | some ds =>
          rw [e1', e2'] at q3
          exact hr Γ σ κ3 H3 e3 v d1 vs ds _ Q' I3 (rv_ok I3 h2' e1') (rvL_ok I3 h3 e2') q3 fun v' κ' H' r x I' h' q' => k v' κ' H' r e3 (((x1.trans x2).trans x3).trans x) I' h' q'
def tMeth0 (T : String) (p : D → List D → (R → Prop) → Prop) (to : PTE) : PTE := fun x e Q => to x e fun r e1 => match rv r e1 with
  | some d => d.isTy T ∧ p d [] (fun r => Q r e1)
  | none => False
theorem ve_meth0 {id T : String} {name : Str} {apos cpos : Pos} {r : PySem.W.Frag → V → List V → Hp → VK → Prop} {p : D → List D → (R → Prop) → Prop} (pa : PlainAttrs T) (slot : Slot T name id) (hty : typeOf (.builtin id) = pure (.type "method_descriptor")) (hm : ∀ i, MtR (Y.X i) id (r (Y.X i).K)) (hr : MtRef T r p) (ho : VE Y o to)
    (hbase : ∀ X : Cx, attributeBase o name X.env (eval o X.env) = eval o X.env := by intro _; rfl) (hline : (apos.endLine == cpos.line) = true := by rfl) :
    VE Y (.Call (.Attribute o name apos) [] [] cpos) (tMeth0 T p to) := by
  obtain ⟨ro, po, fo⟩ := ho.ex
  refine ⟨⟨fun E => tBM0 Y.K T (r Y.K) (ro E), fun i => ?_, fun Γ σ κ H env Q Q' hK I q k => ?_⟩⟩
  · have h2 := pe_bm0 pa slot hty (hm i) (po i) (hbase _) hline
    rw [Y.hK i] at h2
    exact h2
  · refine fo Γ σ κ H env _ _ hK I q fun v κ1 H1 r1 e1 x1 I1 h1 q1 => ?_
    rw [← hK.k]
    cases e' : rv r1 e1 with
    | none => rw [e'] at q1; exact q1.elim
    | some d =>
      rw [e'] at q1
      exact ⟨tyV_of (rv_ok I1 h1 e') q1.1, hr Γ σ κ1 H1 e1 v d [] [] _ Q' I1 (rv_ok I1 h1 e') .nil q1.2 fun v' κ' H' r x I' h' q' => k v' κ' H' r e1 (x1.trans x) I' h' q'⟩
/-- sep.join(list or tuple of texts) -/
def strL : List D → Option (List (List Nat))
  | [] => some []
  | .str s :: ds => match strL ds with
    | some r => some (s :: r)
    | none => none
  | _ => none
def joinN (s : List Nat) : List (List Nat) → List Nat
  | [] => []
  | [x] => x
  | x :: y :: r => x ++ (s ++ joinN s (y :: r))
def D.items : D → List D
  | .lst ds => ds
  | .tup ds => ds
  | _ => [.non]
def pJoin (d : D) (ds : List D) (Q : R → Prop) : Prop := match d, ds with
  | .str s, [x] => match strL x.items with
    | some r => (r.map List.length).sum + r.length * s.length ≤ 16777216 ∧ Q (.d (.str (joinN s r)))
    | none => False
  | _, _ => False
theorem strL_rep : ∀ {ds : List D} {vs : List V} {r : List (List Nat)}, RepL Γ.K Γ.cls κ H vs ds → strL ds = some r → vs = r.map (fun s => V.str ⟨s.toArray⟩) ∧ (∀ s ∈ r, SOk s)
  | [], _, _, h, e => by cases h; cases e; exact ⟨rfl, by simp⟩
  | .str s :: ds, _, _, .cons h1 h2, e => by
    unfold strL at e
    cases q : strL ds with
    | none => rw [q] at e; cases e
    | some r' =>
      rw [q] at e
      cases e
      obtain ⟨rfl, hs⟩ := h1.strE
      obtain ⟨rfl, hr⟩ := strL_rep h2 q
      refine ⟨rfl, fun t ht => ?_⟩
      rcases List.mem_cons.mp ht with rfl | ht
      · exact hs
      · exact hr t ht
  | .non :: _, _, _, _, e => by simp [strL] at e
  | .bl _ :: _, _, _, _, e => by simp [strL] at e
  | .int _ :: _, _, _, _, e => by simp [strL] at e
  | .tup _ :: _, _, _, _, e => by simp [strL] at e
  | .lst _ :: _, _, _, _, e => by simp [strL] at e
  | .scr _ :: _, _, _, _, e => by simp [strL] at e
  | .box :: _, _, _, _, e => by simp [strL] at e
  | .ref _ :: _, _, _, _, e => by simp [strL] at e
  | .cls _ :: _, _, _, _, e => by simp [strL] at e
  | .exc _ _ _ :: _, _, _, _, e => by simp [strL] at e
theorem joinN_eq (s : List Nat) : ∀ r : List (List Nat), joinN s r = TL.joinL s r
  | [] => rfl
  | [_] => rfl
  | x :: y :: r => by
    show x ++ (s ++ joinN s (y :: r)) = x ++ (s ++ TL.joinL s (y :: r))
    rw [joinN_eq s (y :: r)]
theorem joinN_len (s : List Nat) : ∀ r : List (List Nat), (joinN s r).length ≤ (r.map List.length).sum + r.length * s.length
  | [] => by simp [joinN]
  | [x] => by simp [joinN]
  | x :: y :: r => by
    have ih := joinN_len s (y :: r)
    show (x ++ (s ++ joinN s (y :: r))).length ≤ _
    rw [List.length_append, List.length_append, List.map_cons, List.sum_cons, List.length_cons, Nat.add_mul, Nat.one_mul]
    omega
theorem joinN_mem (s : List Nat) : ∀ (r : List (List Nat)) (c : Nat), c ∈ joinN s r → c ∈ s ∨ ∃ x ∈ r, c ∈ x
  | [], c, h => by simp [joinN] at h
  | [x], c, h => .inr ⟨x, by simp, h⟩
  | x :: y :: r, c, h => by
    have h : c ∈ x ++ (s ++ joinN s (y :: r)) := h
    rcases List.mem_append.mp h with h | h
    · exact .inr ⟨x, by simp, h⟩
    · rcases List.mem_append.mp h with h | h
      · exact .inl h
      · rcases joinN_mem s (y :: r) c h with h | ⟨z, hz, h⟩
        · exact .inl h
        · exact .inr ⟨z, List.mem_cons_of_mem _ hz, h⟩
def rJoin (K : PySem.W.Frag) : V → List V → Hp → VK → Prop := fun x xs H Q => ∃ a p, ∃ ys : List Str, x = .str a ∧ xs = [.ref p] ∧ (SqL K H p (ys.map V.str) ∨ SqT K H p (ys.map V.str)) ∧
    (ys.map (·.length)).sum + ys.length * a.length ≤ 16777216 ∧ Q (.str (Txt.join a ys)) H
theorem ref_join : MtRef "str" rJoin pJoin := by
  intro Γ σ κ H env v d vs ds Q Q' I hd hs q k
  match d, ds, vs, hd, hs, q with
  | .str s, [x], _, hd, .cons hx .nil, q =>
    obtain ⟨rfl, hs⟩ := Rep.strE hd
    unfold pJoin at q
    simp only at q
    cases qe : strL x.items with
    | none => rw [qe] at q; exact q.elim
    | some r =>
      rw [qe] at q
      have key : ∀ (p : Addr) (ws : List V), (SqL Γ.K H p ws ∨ SqT Γ.K H p ws) → RepL Γ.K Γ.cls κ H ws x.items → rJoin Γ.K (.str ⟨s.toArray⟩) [.ref p] H Q' := by
        intro p ws hp hr
        obtain ⟨rfl, hall⟩ := strL_rep hr qe
        have e1 : r.map (fun s => V.str ⟨s.toArray⟩) = (r.map fun s => (⟨s.toArray⟩ : Str)).map V.str := by rw [List.map_map]; rfl
        rw [e1] at hp
        refine ⟨_, p, r.map fun s => (⟨s.toArray⟩ : Str), rfl, rfl, hp, ?_, ?_⟩
        · rw [List.map_map, List.length_map, str_len]
          have : ((fun x => x.length) ∘ fun s : List Nat => (⟨s.toArray⟩ : Str)) = List.length := by
            funext s
            exact str_len s
          rw [this]
          exact q.1
        · have e2 : Txt.join ⟨s.toArray⟩ (r.map fun s => (⟨s.toArray⟩ : Str)) = ⟨(joinN s r).toArray⟩ := by
            rw [joinN_eq]
            exact SX.join_S s r
          rw [e2]
          refine k _ κ H (.d (.str (joinN s r))) (.refl ..) I (.str _ ⟨?_, fun c hc => ?_⟩) q.2
          · have h1 := joinN_len s r
            have h2 := q.1
            rw [sizeLine_eq]
            omega
          · rcases joinN_mem s r c hc with h | ⟨y, hy, h⟩
            · exact hs.2 c h
            · exact (hall y hy).2 c h
      cases x with
      | lst ds => obtain ⟨p, ws, rfl, h1, h2, h3⟩ := hx; exact key p ws (.inl (SqL.of h1)) h3
      | tup ds => obtain ⟨p, ws, rfl, h1, h2, h3⟩ := Rep.sqT hx; exact key p ws (.inr h1) h3
      | _ => simp [D.items, strL] at qe
theorem ve_join {apos cpos : Pos} {t : PTR} (ho : VE Y o to) (ha : VR Y [e] t) (hbase : ∀ X : Cx, attributeBase o "join" X.env (eval o X.env) = eval o X.env := by intro _; rfl)
    (hfew : ∀ X : Cx, ((backTo cpos (starEach [e] X.env)).all (fun x => !x.1) && (backToKw cpos (keywordEach [] X.env)).all (fun x => x.1.isSome)
      && decide (([e] : List Expr).length + ([] : List Keyword).length + (if ([] : List Keyword).isEmpty then 0 else 1) < 30)) = true := by intro _; rfl)
    (hline : (apos.endLine == cpos.line) = true := by rfl) (hs : ∀ X : Cx, starEach [e] X.env = (false, eval e X.env) :: starEach [] X.env := by intro _; rfl) :
    VE Y (.Call (.Attribute o "join" apos) [e] [] cpos) (tMeth "str" pJoin to t) :=
  ve_meth PySem.F.plainAttrs_str PySem.F.slot_str_join PySem.F.type_str_join (fun _ => mt_join) ref_join ho ha hbase hfew hline hs
/-- text.index(sign) -/
def ixOf (c : Nat) : List Nat → Nat
  | [] => 0
  | x :: xs => if x = c then 0 else ixOf c xs + 1
theorem ixOf_spec {c : Nat} : ∀ {l : List Nat}, c ∈ l → l[ixOf c l]? = some c ∧ ∀ j, j < ixOf c l → l[j]? ≠ some c
  | [], h => by cases h
  | x :: xs, h => by
    unfold ixOf
    by_cases e : x = c
    · rw [if_pos e]
      exact ⟨by simp [e], fun j hj => absurd hj (Nat.not_lt_zero _)⟩
    · rw [if_neg e]
      rcases List.mem_cons.mp h with h | h
      · exact absurd h.symm e
      · obtain ⟨h1, h2⟩ := ixOf_spec h
        refine ⟨by simpa using h1, fun j hj => ?_⟩
        cases j with
        | zero => simpa using e
        | succ j => simpa using h2 j (by omega)
theorem occ_stay (x y : Str) (hi i : Nat) : ∀ (l : List Nat) (st : Array Nat × Nat), st.fst = #[i] → (forIn l st (StrLaws.occBody x y hi 1)).run.fst = #[i]
  | [], st, h => h
  | a :: l, st, h => by
    rw [List.forIn_cons]
    unfold StrLaws.occBody
    rw [if_neg (by rw [h]; simp)]
    exact occ_stay x y hi i l _ h
theorem occ_first (x y : Str) (hi i : Nat) : ∀ (l : List Nat) (free : Nat), (∀ j ∈ l, free ≤ j) → i ∈ l → (i + y.length ≤ hi ∧ Builtin.Str.subAt x y i = true) → l.Pairwise (· < ·) → (∀ j ∈ l, j < i → ¬ (j + y.length ≤ hi ∧ Builtin.Str.subAt x y j = true)) →
    (forIn l ((#[] : Array Nat), free) (StrLaws.occBody x y hi 1)).run.fst = #[i]
  | [], _, _, h, _, _, _ => by cases h
  | a :: l, free, hf, hm, hc, hp, hn => by
    rw [List.forIn_cons]
    unfold StrLaws.occBody
    by_cases e : a = i
    · subst e
      rw [if_pos ⟨⟨⟨by simp, hf a (by simp)⟩, hc.1⟩, hc.2⟩]
      exact occ_stay x y hi a l _ (by simp)
    · have hil : i ∈ l := by
        rcases List.mem_cons.mp hm with h | h
        · exact absurd h.symm e
        · exact h
      have hai : a < i := (List.pairwise_cons.mp hp).1 i hil
      rw [if_neg (fun z => hn a (by simp) hai ⟨z.1.2, z.2⟩)]
      exact occ_first x y hi i l free (fun j hj => hf j (List.mem_cons_of_mem _ hj)) hil hc (List.pairwise_cons.mp hp).2 fun j hj => hn j (List.mem_cons_of_mem _ hj)
theorem occ_ix {l : List Nat} {c : Nat} (h : c ∈ l) : Builtin.Str.occurrences ⟨l.toArray⟩ ⟨#[c]⟩ 0 (⟨l.toArray⟩ : Str).length 1 = [ixOf c l] := by
  obtain ⟨h1, h2⟩ := ixOf_spec h
  rw [StrLaws.occ_eq, occ_first _ _ _ (ixOf c l)]
  · exact fun j _ => Nat.zero_le _
  · have := (List.getElem?_eq_some_iff.mp h1).1
    rw [str_len]
    simp only [List.mem_range'_1]
    omega
  · exact (StrLaws.subAt_one _ c _).mpr (by simpa using h1)
  · exact List.pairwise_lt_range' ..
  · exact fun j _ hj z => h2 j hj (by simpa using (StrLaws.subAt_one _ c j).mp z)
def pIndexS (d : D) (ds : List D) (Q : R → Prop) : Prop := match d, ds with
  | .str l, [.str [c]] => c ∈ l ∧ Q (.d (.int (ixOf c l)))
  | _, _ => False
theorem ref_indexS : MtRef "str" (fun _ x xs H Q => ∃ a b i rest, x = .str a ∧ xs = [.str b] ∧ Builtin.Str.occurrences a b 0 a.length 1 = i :: rest ∧ Q (.int (i : Nat)) H) pIndexS := by
  intro Γ σ κ H env v d vs ds Q Q' I hd hs q k
  match d, ds, vs, hd, hs, q with
  | .str l, [.str [c]], _, hd, .cons hx .nil, q =>
    obtain ⟨rfl, _⟩ := Rep.strE hd
    obtain ⟨rfl, _⟩ := Rep.strE hx
    exact ⟨_, _, _, _, rfl, rfl, occ_ix q.1, k _ κ H (.d (.int (ixOf c l))) (.refl ..) I (.int _) q.2⟩
theorem ve_indexS {apos cpos : Pos} {t : PTR} (ho : VE Y o to) (ha : VR Y [e] t) (hbase : ∀ X : Cx, attributeBase o "index" X.env (eval o X.env) = eval o X.env := by intro _; rfl)
    (hfew : ∀ X : Cx, ((backTo cpos (starEach [e] X.env)).all (fun x => !x.1) && (backToKw cpos (keywordEach [] X.env)).all (fun x => x.1.isSome)
      && decide (([e] : List Expr).length + ([] : List Keyword).length + (if ([] : List Keyword).isEmpty then 0 else 1) < 30)) = true := by intro _; rfl)
    (hline : (apos.endLine == cpos.line) = true := by rfl) (hs : ∀ X : Cx, starEach [e] X.env = (false, eval e X.env) :: starEach [] X.env := by intro _; rfl) :
    VE Y (.Call (.Attribute o "index" apos) [e] [] cpos) (tMeth "str" pIndexS to t) :=
  ve_meth PySem.F.plainAttrs_str PySem.F.slot_str_index PySem.F.type_str_index (fun _ => mt_sindex) ref_indexS ho ha hbase hfew hline hs
/-- list.index(data) -/
def ixD (d : D) : List D → Nat
  | [] => 0
  | x :: xs => if D.eq x d = true then 0 else ixD d xs + 1
def pIndexL (d : D) (ds : List D) (Q : R → Prop) : Prop := match d, ds with
  | .lst l, [y] => y.ok 64 = true ∧ D.okL l 63 = true ∧ (l.any fun z => D.eq z y) = true ∧ Q (.d (.int (ixD y l)))
  | _, _ => False
end
end Pu
set_option maxRecDepth 100000
set_option maxHeartbeats 4000000
namespace Pu
open PySem L2
section
variable {Γ Γ' : Gm} {κ κ' : Ka} {H H' : Hp} {env env' : En} {σ : Sl} {v : V} {st : Sto} {Y : Fam} {a b e o : Expr} {es : List Expr} {ta tb te to : PTE} {pos : Pos}
def mget : R → En → Option (List D)
  | .nam i, e => match e.sl[i]? with
    | some (.own ds) => some ds
    | _ => none
  | .d (.ref k), e => match e.st[k]? with
    | some (.lst ds) => some ds
    | _ => none
  | _, _ => none
def mset : R → En → List D → En
  | .nam i, e, ds => e.setC i (.own ds)
  | .d (.ref k), e, ds => ⟨e.sl, e.st.set k (.lst ds)⟩
  | _, e, _ => e
theorem Gh.upd_obj {p : Addr} {k : Nat} {o : HO} {so : SO} (g : Gh Γ κ st H) (h : κ p = some (.obj k)) (hr : ∀ H', H' p = some o → Ext κ H κ H' → ObjR Γ κ H' p so) (hk : k < st.length) : Gh Γ κ (st.set k so) (L2.upd H p o) := by
  have x : Ext κ H κ (L2.upd H p o) := ⟨fun _ _ e => e, fun a e => upd_ne fun z => by rw [z, h] at e; cases e⟩
  refine ⟨g.sub, g.new, fun b y e => ?_, fun b e => ?_, fun b e => ?_, fun b j e => ?_, g.inj, fun b u e hk' => ?_⟩
  · by_cases hb : b = p
    · rw [hb, upd_same]; simp
    · rw [upd_ne hb]; exact g.trk b y e
  · by_cases hb : b = p
    · rw [hb, upd_same]; simp
    · rw [upd_ne hb]; exact g.trk0 b e
  · rw [upd_ne (fun z => by rw [z, h] at e; cases e)]; exact g.box b e
  · by_cases hb : b = p
    · subst hb
      rw [h] at e
      cases e
      exact ⟨so, by rw [List.getElem?_set_self hk], hr _ upd_same x⟩
    · have hj : j ≠ k := fun z => hb (g.inj b p k (z ▸ e) h)
      obtain ⟨so', h1, h2⟩ := g.obj b j e
      exact ⟨so', by rw [List.getElem?_set_ne (Ne.symm hj)]; exact h1, h2.ext x (upd_ne hb)⟩
  · by_cases hb : b = p
    · subst hb
      rcases g.new b _ h with z | z | ⟨z, _⟩
      · rcases hk' with q | q <;> (rw [q] at z; cases z)
      · rw [e] at z; cases z
      · cases z
    · rw [upd_ne hb]; exact g.base b u e hk'
theorem mut_ok {r : R} {ds : List D} (I : Rl Γ κ env σ H) (h : HeldR Γ κ H σ v r) (e : mget r env = some ds) : ∃ a vs, v = .ref a ∧ H a = some (.lst vs) ∧ vs.length ≤ sizeLine ∧ RepL Γ.K Γ.cls κ H vs ds ∧
    ∀ vs' ds', vs'.length ≤ sizeLine → RepL Γ.K Γ.cls κ H vs' ds' → Ext κ H κ (upd H a (.lst vs')) ∧ Rl Γ κ (mset r env ds') σ (upd H a (.lst vs')) := by
  cases r with
  | nam i =>
    have h : σ[i]? = some (some v) := h
    unfold mget at e
    simp only at e
    cases q : env.sl[i]? with
    | none => rw [q] at e; cases e
    | some c =>
      have s := I.get q
      rw [q] at e
      cases c with
      | own ds' =>
        cases e
        obtain ⟨a, e1, k1, h0, vs, h2, h3, h4⟩ := s
        rw [h] at e1
        cases e1
        refine ⟨a, vs, rfl, h2, h3, h4, fun vs' ds' l' r' => ?_⟩
        have x : Ext κ H κ (L2.upd H a (.lst vs')) := Ext.upd k1
        have hi : i < env.sl.length := (List.getElem?_eq_some_iff.mp q).1
        have own_i : OwnS env σ i a := ⟨h, _, q, rfl⟩
        refine ⟨x, ⟨by rw [I.len]; simp [mset, En.setC], fun j c ec => ?_, fun j l b o1 o2 => ?_, I.gh.upd k1 h0⟩⟩
        · have ec : (env.sl.set i (C.own ds'))[j]? = some c := ec
          by_cases hj : j = i
          · subst hj
            rw [List.getElem?_set_self hi] at ec
            cases ec
            exact ⟨a, h, k1, h0, vs', upd_same, l', r'.mono x⟩
          · rw [List.getElem?_set_ne (Ne.symm hj)] at ec
            have s := I.get ec
            cases hc : c.isOwn with
            | true =>
              obtain ⟨b, e1, hb⟩ := s.own hc
              have hba : b ≠ a := fun z => hj (I.dist j i a ⟨z ▸ e1, c, ec, hc⟩ own_i)
              exact .mk e1 (hb.ext x hb.facts.1 (upd_ne hba))
            | false =>
              cases c with
              | un => trivial
              | d d => obtain ⟨v, e1, r⟩ := s; exact ⟨v, e1, r.mono x⟩
              | _ => cases hc
        · have old : ∀ m, OwnS (env.setC i (.own ds')) σ m b → OwnS env σ m b := fun m ⟨z1, c, z2, z3⟩ => by
            have z2 : (env.sl.set i (C.own ds'))[m]? = some c := z2
            by_cases hm : m = i
            · subst hm
              exact ⟨z1, _, q, rfl⟩
            · rw [List.getElem?_set_ne (Ne.symm hm)] at z2
              exact ⟨z1, c, z2, z3⟩
          exact I.dist j l b (old j o1) (old l o2)
      | _ => cases e
  | d d =>
    cases d with
    | ref k =>
      unfold mget at e
      simp only at e
      cases q : env.st[k]? with
      | none => rw [q] at e; cases e
      | some so =>
        rw [q] at e
        cases so with
        | lst ds' =>
          cases e
          cases h with
          | @ref a _ hk =>
            obtain ⟨so, g1, g2⟩ := I.gh.obj a k hk
            rw [q] at g1
            cases g1
            obtain ⟨vs, h2, h3, h4⟩ := g2
            refine ⟨a, vs, rfl, h2, h3, h4, fun vs' ds' l' r' => ?_⟩
            have x : Ext κ H κ (L2.upd H a (.lst vs')) := ⟨fun _ _ e => e, fun b e => upd_ne fun z => by rw [z, hk] at e; cases e⟩
            refine ⟨x, I.step x (fun i b hb => ?_) (I.gh.upd_obj (so := .lst ds') hk (fun H' e x' => ⟨vs', e, l', r'.mono x'⟩) (List.getElem?_eq_some_iff.mp q).1)⟩
            obtain ⟨c, _, hc⟩ := I.ownS hb
            exact ⟨hc.facts.1, upd_ne fun z => by have := hc.facts.1; rw [z, hk] at this; cases this⟩
        | _ => cases e
    | _ => cases e
  | own _ => cases e
  | dK _ => cases e
  | dT _ => cases e
abbrev PMu := List D → List D → (List D → D → Prop) → Prop
def MutRef (r : V → List V → Hp → VK → Prop) (p : PMu) : Prop :=
  ∀ (Γ : Gm) (κ : Ka) (H : Hp) (a : Addr) (vs ws : List V) (ds as : List D) (K : List D → D → Prop) (Q' : VK), H a = some (.lst vs) → vs.length ≤ sizeLine → RepL Γ.K Γ.cls κ H vs ds → RepL Γ.K Γ.cls κ H ws as → (κ a ≠ some .frz) → p ds as K →
    (∀ y vs' ds' dy, vs'.length ≤ sizeLine → RepL Γ.K Γ.cls κ H vs' ds' → Rep Γ.K Γ.cls κ H y dy → K ds' dy → Q' y (upd H a (.lst vs'))) → r (.ref a) ws H Q'
def tMut (p : PMu) (to : PTE) (t : PTA) : PTE := fun x e Q => to x e fun r e1 => hold r e1 fun r e1 => (mget r e1).isSome = true ∧ t x e1 fun as e2 => match mget r e2 with
  | some ds => p ds as fun ds' y => Q (.d y) (mset r e2 ds')
  | none => False
theorem mut_fin {r : V → List V → Hp → VK → Prop} {p : PMu} {R2' : R} {ws : List V} {as : List D} {Q : R → En → Prop} {Q' : VK} (hr : MutRef r p) (I : Rl Γ κ env σ H) (h : HeldR Γ κ H σ v R2') (ha : RepL Γ.K Γ.cls κ H ws as)
    (q : match mget R2' env with | some ds => p ds as fun ds' y => Q (.d y) (mset R2' env ds') | none => False)
    (k : ∀ v κ' H' r env', Ext κ H κ' H' → Rl Γ κ' env' σ H' → RelR Γ κ' H' env' σ v r → Q r env' → Q' v H') : r v ws H Q' := by
  cases e1 : mget R2' env with
  | none => rw [e1] at q; exact q.elim
  | some ds =>
    rw [e1] at q
    obtain ⟨a, vs, rfl, h1, h2, h3, h4⟩ := mut_ok I h e1
    refine hr Γ κ H a vs ws ds as _ Q' h1 h2 h3 ha ?_ q fun y vs' ds' dy l' r' ry q' => ?_
    · intro z
      cases R2' with
      | nam i =>
        have h : σ[i]? = some (some (V.ref a)) := h
        unfold mget at e1
        simp only at e1
        cases q : env.sl[i]? with
        | none => rw [q] at e1; cases e1
        | some c =>
          rw [q] at e1
          cases c with
          | own ds' =>
            obtain ⟨c, _, hc⟩ := I.ownS (i := i) (a := a) ⟨h, _, q, rfl⟩
            rw [hc.facts.1] at z; cases z
          | _ => cases e1
      | d d =>
        cases d with
        | ref k => cases h with | ref hk => rw [hk] at z; cases z
        | _ => cases e1
      | _ => cases e1
    · obtain ⟨x, J⟩ := h4 vs' ds' l' r'
      exact k y κ _ (.d dy) (mset R2' env ds') x J (ry.mono x) q'
theorem tyV_mut {r : R} (I : Rl Γ κ env σ H) (h : HeldR Γ κ H σ v r) (e : (mget r env).isSome = true) : tyV Γ.K "list" v H := by
  obtain ⟨ds, e1⟩ := Option.isSome_iff_exists.mp e
  obtain ⟨a, vs, rfl, h1, _⟩ := mut_ok I h e1
  exact .inl ⟨rfl, vs, SqL.of h1⟩
theorem ve_mut {id : String} {name : Str} {apos cpos : Pos} {r : V → List V → Hp → VK → Prop} {p : PMu} {t : PTA} (slot : Slot "list" name id) (hty : typeOf (.builtin id) = pure (.type "method_descriptor")) (hm : ∀ i, MtR (Y.X i) id r) (hr : MutRef r p) (ho : VE Y o to) (ha : VA Y (e :: es) t)
    (hbase : ∀ X : Cx, attributeBase o name X.env (eval o X.env) = eval o X.env := by intro _; rfl)
    (hfew : ∀ X : Cx, ((backTo cpos (starEach (e :: es) X.env)).all (fun x => !x.1) && (backToKw cpos (keywordEach [] X.env)).all (fun x => x.1.isSome)
      && decide ((e :: es).length + ([] : List Keyword).length + (if ([] : List Keyword).isEmpty then 0 else 1) < 30)) = true := by intro _; rfl)
    (hline : (apos.endLine == cpos.line) = true := by rfl) (hs : ∀ X : Cx, starEach (e :: es) X.env = (false, eval e X.env) :: starEach es X.env := by intro _; rfl) (hplain : ∀ X : Cx, (backTo cpos (starEach es X.env)).any (·.1) = false := by intro _; rfl) :
    VE Y (.Call (.Attribute o name apos) (e :: es) [] cpos) (tMut p to t) := by
  obtain ⟨ro, po, fo⟩ := ho.ex
  obtain ⟨ra, pa', fa⟩ := ha.ex
  refine ⟨⟨fun E => tBM Y.K "list" r (ro E) (ra E), fun i => ?_, fun Γ σ κ H env Q Q' hK I q k => ?_⟩⟩
  · have h2 := pe_bm PySem.F.plainAttrs_list slot hty (hm i) (po i) (pa' i) (hbase _) (hfew _) hline (hs _) (hplain _)
    rw [Y.hK i] at h2
    exact h2
  · refine fo Γ σ κ H env _ _ hK I q fun v κ1 H1 r1 e1 x1 I1 h1 q1 => ?_
    refine hold_ok I1 h1 q1 fun κ2 r2 x2 I2 h2 q2 => ?_
    rw [← hK.k]
    refine ⟨tyV_mut I2 h2 q2.1, fa Γ σ κ2 H1 e1 _ _ hK I2 q2.2 fun vs κ3 H3 as e3 x3 I3 h3 q3 => ?_⟩
    exact mut_fin hr I3 (h2.ext x3) h3 q3 fun v' κ' H' r e' x => k v' κ' H' r e' (((x1.trans x2).trans x3).trans x)
def mAppend : PMu := fun ds as K => match as with
  | [y] => ds.length < sizeLine ∧ K (ds ++ [y]) .non
  | _ => False
theorem ref_append : MutRef rAppend mAppend := by
  intro Γ κ H a vs ws ds as K Q' h1 h2 h3 h4 hk q k
  match as, ws, h4, q with
  | [y], _, .cons (v := w) r .nil, q => exact ⟨a, vs, w, rfl, rfl, h1, by rw [h3.length]; exact q.1, k .non (vs ++ [w]) (ds ++ [y]) .non (by rw [List.length_append, h3.length]; exact q.1) (h3.append (.cons r .nil)) .non q.2⟩
@[irreducible] def mPop : PMu := fun ds as K => match as with
  | [] => match ds[ds.length - 1]? with
    | some y => K ds.dropLast y
    | none => False
  | _ => False
@[irreducible] def mPopAt : PMu := fun ds as K => match as with
  | [.int i] => match ixN ds.length i with
    | some j => match ds[j]? with
      | some y => K (ds.eraseIdx j) y
      | none => False
    | none => False
  | _ => False
def mExtend : PMu := fun ds as K => match as with
  | [.lst zs] => ds.length + zs.length ≤ sizeLine ∧ K (ds ++ zs) .non
  | _ => False
def mReverse : PMu := fun ds as K => match as with
  | [] => K ds.reverse .non
  | _ => False
section
variable {apos cpos : Pos} {t : PTA}
variable (hbase : ∀ (n : Str) (X : Cx), attributeBase o n X.env (eval o X.env) = eval o X.env)
theorem ve_append (ho : VE Y o to) (ha : VA Y [e] t) (hbase : ∀ X : Cx, attributeBase o "append" X.env (eval o X.env) = eval o X.env := by intro _; rfl)
    (hfew : ∀ X : Cx, ((backTo cpos (starEach [e] X.env)).all (fun x => !x.1) && (backToKw cpos (keywordEach [] X.env)).all (fun x => x.1.isSome)
      && decide (([e] : List Expr).length + ([] : List Keyword).length + (if ([] : List Keyword).isEmpty then 0 else 1) < 30)) = true := by intro _; rfl)
    (hline : (apos.endLine == cpos.line) = true := by rfl) (hs : ∀ X : Cx, starEach [e] X.env = (false, eval e X.env) :: starEach [] X.env := by intro _; rfl) : VE Y (.Call (.Attribute o "append" apos) [e] [] cpos) (tMut mAppend to t) :=
  ve_mut PySem.F.slot_list_append PySem.F.type_list_append (fun _ => mt_append) ref_append ho ha hbase hfew hline hs
end
/-- list(x) -/
def pList : List D → (R → Prop) → Prop
  | [.lst ds], Q => Q (.own ds)
  | [.tup ds], Q => Q (.own ds)
  | [.str s], Q => Q (.own (signs s))
  | _, _ => False
theorem signs_length (s : List Nat) : (signs s).length = s.length := by unfold signs; rw [List.length_map]
/-- tuple(x) -/
def pTuple : List D → (R → Prop) → Prop
  | [.lst ds], Q => Q (.d (.tup ds))
  | [.tup ds], Q => Q (.d (.tup ds))
  | _, _ => False
def rTuple (K : PySem.W.Frag) : List V → Hp → VK → Prop := fun xs H Q => ∃ p ys, xs = [.ref p] ∧ ((SqL K H p ys ∧ PuE.nT H ys Q) ∨ (SqT K H p ys ∧ Q (.ref p) H))
theorem ref_tuple : CallRef rTuple pTuple := by
  intro Γ σ κ H env vs ds Q Q' I h q k
  match ds, vs, h, q with
  | [.lst ds], _, .cons h .nil, q =>
    obtain ⟨a, ws, rfl, h1, h2, h3⟩ := h
    refine ⟨a, ws, rfl, .inl ⟨SqL.of h1, ?_⟩⟩
    exact new_tupB I h2 h3 fun κ' H' p x1 I1 r1 => k _ _ _ (.d (.tup ds)) x1 I1 r1 q
  | [.tup ds], _, .cons h .nil, q =>
    have h0 : Rep Γ.K Γ.cls κ H _ (.tup ds) := h
    obtain ⟨a, ws, rfl, h1, h2, h3⟩ := Rep.sqT h
    exact ⟨a, ws, rfl, .inr ⟨h1, k _ κ H (.d (.tup ds)) (.refl ..) I h0 q⟩⟩
theorem ve_tuple {p' : Pos} {t : PTR} (hm : ∀ i, (Y.X i).mg "tuple" = none) (ha : VR Y [e] t) (hg : ∀ i, Gl (Y.X i) "tuple" := by intro _; rfl) (he : ∀ X : Cx, starEach [e] X.env = (false, eval e X.env) :: starEach [] X.env := by intro _; rfl) : VE Y (.Call (.Name "tuple" p') [e] [] pos) (tCallP pTuple t) :=
  ve_callTy (r := rTuple) (fun i => PuE.call_tuple_ofB) ref_tuple hm ha hg (he := he)
/-- min, max of two ints -/
def pMin2 : List D → (R → Prop) → Prop
  | [.int i, .int j], Q => Q (.d (.int (if j < i then j else i)))
  | _, _ => False
def pMax2 : List D → (R → Prop) → Prop
  | [.int i, .int j], Q => Q (.d (.int (if j > i then j else i)))
  | _, _ => False
theorem ref_min2 : CallRef (fun _ xs H Q => ∃ i j, xs = [.int i, .int j] ∧ Q (.int (if j < i then j else i)) H) pMin2 := by
  intro Γ σ κ H env vs ds Q Q' I h q k
  match ds, vs, h, q with
  | [.int i, .int j], _, .cons h (.cons h' .nil), q =>
    cases h; cases h'
    exact ⟨i, j, rfl, k _ κ H (.d (.int _)) (.refl ..) I (.int _) q⟩
theorem ref_max2 : CallRef (fun _ xs H Q => ∃ i j, xs = [.int i, .int j] ∧ Q (.int (if j > i then j else i)) H) pMax2 := by
  intro Γ σ κ H env vs ds Q Q' I h q k
  match ds, vs, h, q with
  | [.int i, .int j], _, .cons h (.cons h' .nil), q =>
    cases h; cases h'
    exact ⟨i, j, rfl, k _ κ H (.d (.int _)) (.refl ..) I (.int _) q⟩
theorem ve_min2 {p' : Pos} {t : PTR} (hm : ∀ i, (Y.X i).mg "min" = none) (ha : VR Y [a, b] t) (hc : ∀ i, (Y.X i).calm = true := by intro _; rfl) (hg : ∀ i, Gl (Y.X i) "min" := by intro _; rfl) (he : ∀ X : Cx, starEach [a, b] X.env = (false, eval a X.env) :: starEach [b] X.env := by intro _; rfl) (hpl : ∀ X : Cx, (backTo pos (starEach [b] X.env)).any (·.1) = false := by intro _; rfl) : VE Y (.Call (.Name "min" p') [a, b] [] pos) (tCallP pMin2 t) :=
  ve_callB (fun i => call_min2 (hc i)) ref_min2 hm ha hg (he := he) (hpl := hpl)
theorem ve_max2 {p' : Pos} {t : PTR} (hm : ∀ i, (Y.X i).mg "max" = none) (ha : VR Y [a, b] t) (hc : ∀ i, (Y.X i).calm = true := by intro _; rfl) (hg : ∀ i, Gl (Y.X i) "max" := by intro _; rfl) (he : ∀ X : Cx, starEach [a, b] X.env = (false, eval a X.env) :: starEach [b] X.env := by intro _; rfl) (hpl : ∀ X : Cx, (backTo pos (starEach [b] X.env)).any (·.1) = false := by intro _; rfl) : VE Y (.Call (.Name "max" p') [a, b] [] pos) (tCallP pMax2 t) :=
  ve_callB (fun i => call_max2 (hc i)) ref_max2 hm ha hg (he := he) (hpl := hpl)
/-- all, any of a list of bools -/
def blL : List D → Option (List Bool)
  | [] => some []
  | .bl b :: ds => match blL ds with
    | some r => some (b :: r)
    | none => none
  | _ => none
theorem blL_rep : ∀ {ds : List D} {vs : List V} {r : List Bool}, RepL Γ.K Γ.cls κ H vs ds → blL ds = some r → vs = r.map V.bl
  | [], _, _, h, e => by cases h; cases e; rfl
  | .bl b :: ds, _, _, .cons h1 h2, e => by
    unfold blL at e
    cases q : blL ds with
    | none => rw [q] at e; cases e
    | some r' => rw [q] at e; cases e; cases h1; rw [blL_rep h2 q]; rfl
  | .non :: _, _, _, _, e => by simp [blL] at e
  | .str _ :: _, _, _, _, e => by simp [blL] at e
  | .int _ :: _, _, _, _, e => by simp [blL] at e
  | .tup _ :: _, _, _, _, e => by simp [blL] at e
  | .lst _ :: _, _, _, _, e => by simp [blL] at e
  | .scr _ :: _, _, _, _, e => by simp [blL] at e
  | .box :: _, _, _, _, e => by simp [blL] at e
  | .ref _ :: _, _, _, _, e => by simp [blL] at e
  | .cls _ :: _, _, _, _, e => by simp [blL] at e
  | .exc _ _ _ :: _, _, _, _, e => by simp [blL] at e
@[irreducible] def pAll : List D → (R → Prop) → Prop
  | [.lst ds], Q => match blL ds with
    | some r => Q (.d (.bl (r.all id)))
    | none => False
  | _, _ => False
@[irreducible] def pAny : List D → (R → Prop) → Prop
  | [.lst ds], Q => match blL ds with
    | some r => Q (.d (.bl (r.any id)))
    | none => False
  | _, _ => False
theorem ref_all : CallRef rAll pAll := by
  intro Γ σ κ H env vs ds Q Q' I h q k
  unfold pAll at q
  match ds, vs, h, q with
  | [.lst ds], _, .cons h .nil, q =>
    obtain ⟨a, ws, rfl, h1, h2, h3⟩ := h
    simp only at q
    cases e : blL ds with
    | none => rw [e] at q; exact q.elim
    | some r =>
      rw [e] at q
      refine ⟨a, r, rfl, ?_, k _ κ H (.d (.bl _)) (.refl ..) I (.bl _) q⟩
      rw [← blL_rep h3 e]
      exact SqL.of h1
theorem ve_all {p' : Pos} {t : PTR} (hm : ∀ i, (Y.X i).mg "all" = none) (ha : VR Y [e] t) (hc : ∀ i, (Y.X i).calm = true := by intro _; rfl) (hg : ∀ i, Gl (Y.X i) "all" := by intro _; rfl) (he : ∀ X : Cx, starEach [e] X.env = (false, eval e X.env) :: starEach [] X.env := by intro _; rfl) : VE Y (.Call (.Name "all" p') [e] [] pos) (tCallP pAll t) :=
  ve_callB (fun i => cr_all (hc i)) ref_all hm ha hg (he := he)
/-- int(b), int(n) -/
def pInt : List D → (R → Prop) → Prop
  | [.int i], Q => Q (.d (.int i))
  | [.bl b], Q => Q (.d (.int (if b then 1 else 0)))
  | _, _ => False
theorem ref_int : CallRef (fun _ xs H Q => (∃ i, xs = [.int i] ∧ Q (.int i) H) ∨ ∃ k, xs = [.bl k] ∧ Q (.int (if k then 1 else 0)) H) pInt := by
  intro Γ σ κ H env vs ds Q Q' I h q k
  match ds, vs, h, q with
  | [.int i], _, .cons h .nil, q => cases h; exact .inl ⟨i, rfl, k _ κ H (.d (.int _)) (.refl ..) I (.int _) q⟩
  | [.bl b], _, .cons h .nil, q => cases h; exact .inr ⟨b, rfl, k _ κ H (.d (.int _)) (.refl ..) I (.int _) q⟩
theorem ve_int1 {p' : Pos} {t : PTR} (hm : ∀ i, (Y.X i).mg "int" = none) (ha : VR Y [e] t) (hg : ∀ i, Gl (Y.X i) "int" := by intro _; rfl) (he : ∀ X : Cx, starEach [e] X.env = (false, eval e X.env) :: starEach [] X.env := by intro _; rfl) : VE Y (.Call (.Name "int" p') [e] [] pos) (tCallP pInt t) :=
  ve_callTy (fun i => call_int1) ref_int hm ha hg (he := he)
/-- reversed(text) -/
def iRevP (te : PTE) : PTI := fun x e Q => te x e fun r e1 => fz r e1 fun d e2 => match d with
  | .str s => Q (signs s).reverse e2
  | _ => False
/-- isinstance(x, a built-in type) -/
def D.tyN : D → Option String
  | .non => some "NoneType"
  | .bl _ => some "bool"
  | .int _ => some "int"
  | .str _ => some "str"
  | .lst _ => some "list"
  | .tup _ => some "tuple"
  | _ => none
def tIsi (T : String) (te : PTE) : PTE := fun x e Q => te x e fun r e1 => match rv r e1 with
  | some d => match d.tyN with
    | some u => match kitB u T with
      | some b => Q (.d (.bl b)) e1
      | none => False
    | none => False
  | none => False
theorem ve_isi {T : String} {x2 : Str} {p' p2 : Pos} (hm : ∀ i, (Y.X i).mg "isinstance" = none) (hm2 : ∀ i, (Y.X i).mg x2 = none) (he : VE Y e te) (hv2 : bootBuiltins x2 = some (.type T) := by decide +kernel) (hg : ∀ i, Gl (Y.X i) "isinstance" := by intro _; rfl) (hg2 : ∀ i, Gl (Y.X i) x2 := by intro _; rfl)
    (hn2 : x2 ≠ "__name__" := by decide) (hd2 : (x2 == ("__debug__" : Str)) = false := by decide)
    (hs : ∀ X : Cx, starEach [e, .Name x2 p2] X.env = (false, eval e X.env) :: starEach [.Name x2 p2] X.env := by intro _; rfl) (hpl : ∀ X : Cx, (backTo pos (starEach [.Name x2 p2] X.env)).any (·.1) = false := by intro _; rfl) : VE Y (.Call (.Name "isinstance" p') [e, .Name x2 p2] [] pos) (tIsi T te) := by
  obtain ⟨ra, pa, fa⟩ := he.ex
  refine ⟨⟨fun E => tCB (rIsi Y.K) (L2.tCons (ra E) (L2.tCons (tC (.ty T)) L2.tNil)), fun i => ?_, fun Γ σ κ H env Q Q' hK I q k => ?_⟩⟩
  · have h1 : CallR (Y.X i) (.builtin "isinstance") (rIsi Y.K) := by have := call_isi (X := Y.X i); rw [Y.hK i] at this; exact this
    exact pe_callB h1 (hg i) (hm i) (by decide +kernel) (pa_cons (pa i) (pa_cons (pe_bltn (hg2 i) (hm2 i) hv2 rfl hn2 hd2) pa_nil) (hs _)) (by decide) (by decide) (hs _) (hpl _)
  · refine fa Γ σ κ H env _ _ hK I q fun v κ1 H1 r1 e1 x1 I1 h1 q1 => ?_
    cases e' : rv r1 e1 with
    | none => rw [e'] at q1; exact q1.elim
    | some d =>
      rw [e'] at q1
      simp only at q1
      have rt := rv_ok I1 h1 e'
      cases e2 : d.tyN with
      | none => rw [e2] at q1; exact q1.elim
      | some u =>
        rw [e2] at q1
        simp only at q1
        cases e3 : kitB u T with
        | none => rw [e3] at q1; exact q1.elim
        | some b =>
          rw [e3] at q1
          have ty : TyX Y.K H1 v (.type u) := by
            cases d with
            | non => cases e2; cases rt; exact .base .non
            | bl b => cases e2; cases rt; exact .base (.bl b)
            | int i => cases e2; cases rt; exact .base (.int i)
            | str s => cases e2; obtain ⟨rfl, _⟩ := Rep.strE rt; exact .base (.str _)
            | lst ds => cases e2; obtain ⟨a, ws, rfl, g1, _⟩ := rt; exact .base (.lst g1)
            | tup ds =>
              cases e2
              have rt : Rep Γ.K Γ.cls κ1 H1 v (.tup ds) := rt
              cases rt with
              | tup _ _ g1 _ _ => exact .base (.tup g1)
              | tupF _ _ _ _ g1 _ _ => exact .fTuple g1
            | _ => cases e2
          exact ⟨v, .ty T, .type u, .type T, b, rfl, .ty T, ty, kit_ty e3, k _ κ1 H1 (.d (.bl b)) e1 x1 I1 (.bl b) q1⟩
end
end Pu
set_option maxRecDepth 100000
set_option maxHeartbeats 1000000
namespace PuE
open PySem L2 PySem.Spec PyProof.Rows
def rRepS : R2 := fun x y H Q => ∃ (s : List Nat) (k : Int), x = .str ⟨s.toArray⟩ ∧ y = .int k ∧ -(2 ^ 63) ≤ k ∧ k < 2 ^ 63 ∧ s.length * k.toNat ≤ 16777216 ∧ Q (.str ⟨(List.replicate k.toNat s).flatten.toArray⟩) H
theorem fold_rep (s : List Nat) : ∀ (m : Nat) (acc : List Nat), (List.replicate m s.toArray).foldl (· ++ ·) acc.toArray = (acc ++ (List.replicate m s).flatten).toArray
  | 0, acc => by simp
  | m + 1, acc => by
    rw [List.replicate_succ, List.foldl_cons, List.append_toArray, fold_rep s m, List.replicate_succ, List.flatten_cons, List.append_assoc]
theorem op_repS {X : Cx} : OpR X (binaryOp .Mult) rRepS := by
  intro pins s σ H x y v u Q I rx ry h
  obtain ⟨l, k, rfl, rfl, h1, h2, hz, q⟩ := h
  obtain ⟨t, rfl⟩ := rx
  obtain ⟨t', rfl⟩ := ry
  have hline : (sizeLine : Nat) = 16777216 := sizeLine_eq
  have hlen : (⟨l.toArray⟩ : Str).length = l.length := rfl
  refine PySem.P.mul_str ?_ ?_ ?_ ?_
  · rw [decide_eq_false (by omega), decide_eq_false (by omega)]; rfl
  · intro hk hn
    rw [hlen]
    intro z
    have hk1 : 1 ≤ k := by omega
    have h3 : (l.length : Int) * k ≤ 16777216 := by
      have : ((l.length * k.toNat : Nat) : Int) ≤ 16777216 := by omega
      rw [Int.natCast_mul, Int.toNat_of_nonneg (by omega)] at this
      exact this
    have h4 : (l.length : Int) ≤ (2 ^ 63 - 1) / k := by
      rw [Int.le_ediv_iff_mul_le (by omega)]
      omega
    omega
  · intro hk hn
    rw [hlen]
    unfold Builtin.Str.tooLong
    simp only [decide_eq_false_iff_not]
    omega
  · have fin : ∀ (y : Str) (s' : Shared), True := fun _ _ => trivial
    by_cases hk : k < 1
    · rw [if_pos hk]
      have e : k.toNat = 0 := by omega
      rw [e] at q
      exact ⟨by decide, .str ⟨([] : List Nat).toArray⟩, H, I.tok _, ⟨_, rfl⟩, q⟩
    · rw [if_neg hk]
      by_cases hb : (k == 1 || (⟨l.toArray⟩ : Str).length == 0) = true
      · rw [if_pos hb]
        have e : (List.replicate k.toNat l).flatten = l := by
          rw [Bool.or_eq_true] at hb
          rcases hb with hb | hb
          · have : k = 1 := by simpa using hb
            subst this
            simp
          · have : l = [] := by
              rw [hlen] at hb
              exact List.eq_nil_of_length_eq_zero (by simpa using hb)
            subst this
            simp
        rw [e] at q
        exact ⟨.str ⟨l.toArray⟩, H, I, ⟨_, rfl⟩, q⟩
      · rw [if_neg hb]
        have e : (⟨(List.replicate k.toNat (⟨l.toArray⟩ : Str).cps).foldl (· ++ ·) #[]⟩ : Str) = ⟨(List.replicate k.toNat l).flatten.toArray⟩ := by
          have := fold_rep l k.toNat []
          rw [List.nil_append] at this
          show (⟨(List.replicate k.toNat l.toArray).foldl (· ++ ·) ([] : List Nat).toArray⟩ : Str) = _
          rw [this]
        rw [e]
        refine ⟨?_, .str ⟨(List.replicate k.toNat l).flatten.toArray⟩, H, I.tok _, ⟨_, rfl⟩, q⟩
        show (List.replicate k.toNat l).flatten.toArray.size ≤ _
        rw [List.size_toArray, List.length_flatten, List.map_replicate, List.sum_replicate_nat, hline, Nat.mul_comm]
        exact hz
end PuE
set_option maxRecDepth 100000
set_option maxHeartbeats 4000000
namespace Pu
open PySem L2
section
variable {Γ Γ' : Gm} {κ κ' : Ka} {H H' : Hp} {env env' : En} {σ : Sl} {v : V} {st : Sto} {Y : Fam} {a b e o : Expr} {es : List Expr} {ta tb te to ti : PTE} {pos : Pos}
def pMul (d e : D) (Q : R → Prop) : Prop := match d, e with
  | .int i, .int j => CMul i j ∧ Q (.d (.int (i * j)))
  | .lst xs, .int k => (-(2 ^ 63) ≤ k ∧ k < 2 ^ 63) ∧ xs.length * k.toNat ≤ sizeLine ∧ Q (.own (List.replicate k.toNat xs).flatten)
  | .str s, .int k => (-(2 ^ 63) ≤ k ∧ k < 2 ^ 63) ∧ s.length * k.toNat ≤ 16777216 ∧ Q (.d (.str (List.replicate k.toNat s).flatten))
  | _, _ => False
def rMulAll : PySem.W.Frag → R2 := fun _ x y H Q => rI CMul (fun i j => .int (i * j)) x y H Q ∨ rRep x y H Q ∨ PuE.rRepS x y H Q
theorem o_mul (X : Cx) : OpR X (binaryOp .Mult) (rMulAll X.K) := OpR.or op_mul (OpR.or op_rep PuE.op_repS)
theorem ref_mul : OpRef rMulAll pMul := by
  intro Γ σ κ H env v u d e Q Q' I hd he q k
  cases d with
  | int i =>
    cases e with
    | int j => cases hd; cases he; exact .inl ⟨i, j, rfl, rfl, q.1, k _ κ H (.d (.int (i * j))) (.refl ..) I (.int _) q.2⟩
    | _ => exact False.elim q
  | lst xs =>
    cases e with
    | int j =>
      cases he
      obtain ⟨a, vs, rfl, h1, h2, h3⟩ := hd
      obtain ⟨⟨q1, q2⟩, q3, q4⟩ := q
      have rr : ∀ n : Nat, RepL Γ.K Γ.cls κ H (List.replicate n vs).flatten (List.replicate n xs).flatten := fun n => by
        induction n with
        | zero => exact .nil
        | succ n ih =>
          rw [List.replicate_succ, List.replicate_succ, List.flatten_cons, List.flatten_cons]
          exact h3.append ih
      refine .inr (.inl ⟨a, j, vs, rfl, rfl, h1, q1, q2, by rw [h3.length]; exact q3, fun p hp => ?_⟩)
      refine k _ κ _ (.own _) (Ext.upd_new I.gh hp) (I.upd_new hp) (new_lst I hp ?_ (rr _)) q4
      rw [List.length_flatten, List.map_replicate, List.sum_replicate_nat, h3.length, Nat.mul_comm]
      exact q3
    | _ => exact False.elim q
  | str s =>
    cases e with
    | int j =>
      cases he
      obtain ⟨rfl, hs⟩ := Rep.strE hd
      obtain ⟨⟨q1, q2⟩, q3, q4⟩ := q
      refine .inr (.inr ⟨s, j, rfl, rfl, q1, q2, q3, k _ κ H (.d (.str _)) (.refl ..) I (.str _ ⟨?_, fun c hc => ?_⟩) q4⟩)
      · rw [List.length_flatten, List.map_replicate, List.sum_replicate_nat, Nat.mul_comm, sizeLine_eq]
        exact q3
      · obtain ⟨l, hl, hc⟩ := List.mem_flatten.mp hc
        rw [(List.mem_replicate.mp hl).2] at hc
        exact hs.2 c hc
    | _ => exact False.elim q
  | _ => exact False.elim q
theorem ve_mul (ha : VE Y a ta) (hb : VE Y b tb) : VE Y (.BinOp a .Mult b pos) (t2 ta tb pMul) := ve_op o_mul ref_mul ha hb
def setAt (r : R) (dv : D) (i : Int) (e : En) (Q : En → Prop) : Prop := match r with
  | .d .box => (i = 0 ∨ i = 1) ∧ (match dv with | .int _ => Q e | _ => False)
  | r => match mget r e with
    | some ds => match ixN ds.length i with
      | some j => Q (mset r e (ds.set j dv))
      | none => False
    | none => False
def sSetIx (te to ti : PTE) : PTS := fun x P e => te x e fun r0 e1 => fz r0 e1 fun dv e2 => to x e2 fun ro e3 => hold ro e3 fun ro e3 => ti x e3 fun ri e4 => match rv ri e4 with
  | some (.int i) => setAt ro dv i e4 P.nx
  | _ => False
theorem Gh.upd_box {p : Addr} {i j : Int} (g : Gh Γ κ st H) (h : κ p = some .box) : Gh Γ κ st (L2.upd H p (.lst [.int i, .int j])) := by
  have x : Ext κ H κ (L2.upd H p (.lst [.int i, .int j])) := ⟨fun _ _ e => e, fun a e => upd_ne fun z => by rw [z, h] at e; cases e⟩
  refine ⟨g.sub, g.new, fun b y e => ?_, fun b e => ?_, fun b e => ?_, fun b k e => ?_, g.inj, fun b u e hk' => ?_⟩
  · by_cases hb : b = p
    · rw [hb, upd_same]; simp
    · rw [upd_ne hb]; exact g.trk b y e
  · by_cases hb : b = p
    · rw [hb, upd_same]; simp
    · rw [upd_ne hb]; exact g.trk0 b e
  · by_cases hb : b = p
    · exact ⟨i, j, by rw [hb, upd_same]⟩
    · rw [upd_ne hb]; exact g.box b e
  · have hb : b ≠ p := fun z => by rw [z, h] at e; cases e
    obtain ⟨so', h1, h2⟩ := g.obj b k e
    exact ⟨so', h1, h2.ext x (upd_ne hb)⟩
  · by_cases hb : b = p
    · subst hb
      rcases g.new b _ h with z | z | ⟨z, _⟩
      · rcases hk' with q | q <;> (rw [q] at z; cases z)
      · rw [e] at z; cases z
      · cases z
    · rw [upd_ne hb]; exact g.base b u e hk'
theorem vs_setIx {i : Expr} {tpos : Pos} (he : VE Y e te) (ho : VE Y o to) (hi : VE Y i ti) (ha : ∀ (X : Cx) v, assign (.Subscript o i tpos) X.env v = (do
      let ov ← holding [v] (eval o X.env)
      let iv ← holding [v, ov] (eval i X.env)
      standAt tpos
      holding [v, ov, iv] (setItem ov iv v)
      release [v, ov, iv] []) := by intro _ _; rfl)
    (hs : ∀ i', swapsWithSole [.Subscript o i tpos] e pos.line (Y.X i').env = pure false := by intro _; rfl) (hw : ∀ i', swappedStores [.Subscript o i tpos] e (Y.X i').env = pure none := by intro _; rfl)
    (h1 : ∀ X : Cx, (assignEach [.Subscript o i tpos] X.env).map (·.2) = [assign (.Subscript o i tpos) X.env] := by intro _; rfl) : VS Y (.Assign [.Subscript o i tpos] e pos) (sSetIx te to ti) := by
  obtain ⟨re, pe, fe⟩ := he.ex
  obtain ⟨ro, po, fo⟩ := ho.ex
  obtain ⟨ri, pi, fi⟩ := hi.ex
  refine ⟨⟨fun E => tAsg (re E) (gSub (ro E) (ri E) rSetL), fun j => ps_asg (pe j) (pg_sub (po j) (pi j) set_list (ha _)) (hs j) (hw j) (h1 _), fun Γ σ κ H env P P' hK I q l => ?_⟩⟩
  refine fe Γ σ κ H env _ _ hK I q fun v κ1 H1 r1 e1 x1 I1 h1 q1 => ?_
  refine fz_ok I1 h1 q1 fun κ2 dv e2 x2 I2 h2 q2 => ?_
  refine fo Γ σ κ2 H1 e2 _ _ hK I2 q2 fun ov κ3 H3 r3 e3 x3 I3 h3 q3 => ?_
  refine hold_ok I3 h3 q3 fun κ4 r4 x4 I4 h4 q4 => ?_
  refine fi Γ σ κ4 H3 e3 _ _ hK I4 q4 fun iv κ5 H5 r5 e5 x5 I5 h5 q5 => ?_
  have hv : Rep Γ.K Γ.cls κ5 H5 v dv := ((h2.mono x3).mono x4).mono x5
  have hr := h4.ext x5
  have x15 := (((x1.trans x2).trans x3).trans x4).trans x5
  cases e' : rv r5 e5 with
  | none => rw [e'] at q5; exact q5.elim
  | some d =>
    rw [e'] at q5
    have rt := rv_ok I5 h5 e'
    cases d with
    | int i =>
      cases rt
      have gen : (match mget r4 e5 with
          | some ds => match ixN ds.length i with
            | some j => P.nx (mset r4 e5 (ds.set j dv))
            | none => False
          | none => False) → rSetL ov (.int i) v H5 fun H6 => P'.nx σ H6 := fun q => by
        cases em : mget r4 e5 with
        | none => rw [em] at q; exact q.elim
        | some ds =>
          rw [em] at q
          simp only at q
          cases en : ixN ds.length i with
          | none => rw [en] at q; exact q.elim
          | some j =>
            rw [en] at q
            obtain ⟨a, vs, rfl, g1, g2, g3, g4⟩ := mut_ok I5 hr em
            obtain ⟨x6, I6⟩ := g4 (vs.set j v) (ds.set j dv) (by rw [List.length_set]; exact g2) (g3.set j hv)
            exact ⟨a, vs, i, j, rfl, rfl, g1, by rw [g3.length]; exact en, l.1 σ κ5 _ _ (x15.trans x6) I6 q⟩
      cases r4 with
      | d z =>
        cases z with
        | box =>
          cases hr with
          | @box a hk =>
            obtain ⟨m, n, hx⟩ := I5.gh.box a hk
            obtain ⟨hi, q5⟩ := q5
            cases dv with
            | int y =>
              cases hv
              have fin : ∀ m' n' : Int, P'.nx σ (upd H5 a (.lst [.int m', .int n'])) := fun m' n' => by
                have x6 : Ext κ5 H5 κ5 (upd H5 a (.lst [.int m', .int n'])) := ⟨fun _ _ e => e, fun b e => upd_ne fun z => by rw [z, hk] at e; cases e⟩
                refine l.1 σ κ5 _ e5 (x15.trans x6) (I5.step (st' := e5.st) x6 (fun j b hb => ?_) (I5.gh.upd_box hk)) q5
                obtain ⟨c, _, hc⟩ := I5.ownS hb
                exact ⟨hc.facts.1, upd_ne fun z => by have := hc.facts.1; rw [z, hk] at this; cases this⟩
              rcases hi with rfl | rfl
              · exact ⟨a, _, 0, 0, rfl, rfl, hx, rfl, fin y n⟩
              · exact ⟨a, _, 1, 1, rfl, rfl, hx, rfl, fin m y⟩
            | _ => exact q5.elim
        | _ => exact gen q5
      | nam _ => exact gen q5
      | own _ => exact gen q5
      | dK _ => exact gen q5
      | dT _ => exact gen q5
    | _ => exact q5.elim
def boxed (m : PM) : PM := fun ds st Q => m ds st fun c st' => ∃ i j, c = .own [.int i, .int j] ∧ Q (.d .box) st'
theorem FnG.boxed {P : Program} {w : World} {K : PySem.W.Frag} {mg : Str → Option Value} {base : Heap} {ps : List Str} {f : Addr} {fd : FuncData} {k : Nat} {cls : Cl} {flds : Nat → List Str} {m : PM}
    (F : FnG P w K mg base CX0 k f fd ps (sp0 K cls flds m)) : FnG P w K mg base CX0 k f fd ps (sp0 K cls flds (boxed m)) :=
  F.imp fun vs H Q E ⟨κ, ds, st, Q', g, r, hm, fin⟩ => ⟨κ, ds, st, _, g, r, hm, fun v κ' H' c st' g' rc ⟨i, j, hc, q⟩ => by
    subst hc
    obtain ⟨a, rfl, h1, h2, vs, h3, h4, h5⟩ := rc
    have x : Ext κ' H' (put κ' a .box) H' := Ext.put h1
    have hx : ∃ i j, H' a = some (.lst [.int i, .int j]) := by
      cases h5 with
      | cons r1 r2 => cases r1; cases r2 with
        | cons r2 r3 => cases r2; cases r3; exact ⟨_, _, h3⟩
    refine fin (.ref a) (put κ' a .box) H' (.d .box) st' ?_ (.box put_same) q
    have ne : ∀ b y, κ' b = some y → b ≠ a := fun b y e z => by rw [z, h1] at e; cases e
    refine ⟨fun b y e => x.1 b y (g'.sub b y e), fun b y e => ?_, fun b y e => ?_, g'.trk0, fun b e => ?_, fun b k e => ?_, fun b c k e1 e2 => ?_, g'.base⟩
    · by_cases hb : b = a
      · subst hb; exact .inr (.inl h2)
      · rw [put_ne hb] at e; exact g'.new b y e
    · by_cases hb : b = a
      · subst hb; rw [h3]; simp
      · rw [put_ne hb] at e; exact g'.trk b y e
    · by_cases hb : b = a
      · subst hb; exact hx
      · rw [put_ne hb] at e; exact g'.box b e
    · by_cases hb : b = a
      · subst hb; rw [put_same] at e; cases e
      · rw [put_ne hb] at e
        obtain ⟨so, g1, g2⟩ := g'.obj b k e
        exact ⟨so, g1, g2.ext x rfl⟩
    · have hb : b ≠ a := fun z => by subst z; rw [put_same] at e1; cases e1
      have hc : c ≠ a := fun z => by subst z; rw [put_same] at e2; cases e2
      rw [put_ne hb] at e1
      rw [put_ne hc] at e2
      exact g'.inj b c k e1 e2⟩
end
end Pu
set_option maxRecDepth 100000
set_option maxHeartbeats 4000000
namespace Pu
open PySem L2 PySem.Spec PyProof.Rows
section
variable {X : Cx} {tg : Expr}
def iAnyH (K : PySem.W.Frag) (tl : TE) : TI := fun σ H R => tl σ H fun x H1 => (∃ a, x = .ref a ∧ (∃ xs, SqL K H1 a xs) ∧ R (Itl K a) H1) ∨ (∃ a, x = .ref a ∧ (∃ xs, SqT K H1 a xs) ∧ R (Itt K a) H1) ∨ ∃ y, x = .str y ∧ R (Its y) H1
theorem pi_any {l : Expr} {tl : TE} (hl : PE X l tl) : PI X tg l (iAnyH X.K tl) := by
  refine ⟨fun pins s σ H R I h => ?_⟩
  refine thn (hl.run pins s σ H _ I h) fun v s1 ⟨x, H1, I1, r1, q1⟩ => ?_
  rcases q1 with ⟨a, e, ⟨xs, hq⟩, q⟩ | ⟨a, e, ⟨xs, hq⟩, q⟩ | ⟨y, e, q⟩
  · subst e
    cases r1
    obtain ⟨its, rv, p, hz⟩ := I1.list hq
    refine wpAny_pyIter_list p.isList ?_
    refine ⟨s1.heap.objs.size, [s1.heap.objs.size], _, _, H1, rfl, I1.kept (t' := s1.toks) fun b o e => Heap.get?_push_of_some _ e, turn_list a _, ⟨_, Heap.get?_push_size _ rfl, rfl, rfl⟩, fun b hb => ?_, q⟩
    have e : b = s1.heap.objs.size := by simpa using hb
    subst e
    exact I1.fpOk (Nat.le_refl _) (I1.hok.fresh (Nat.le_refl _))
  · subst e
    cases r1
    obtain ⟨its, rv, p, hz⟩ := I1.tuple hq
    refine wpAny_pyIter_tuple (show s1.heap.IsTuple a its.toArray from p) ?_
    refine ⟨s1.heap.objs.size, [s1.heap.objs.size], _, _, H1, rfl, I1.kept (t' := s1.toks) fun b o e => Heap.get?_push_of_some _ e, turn_tuple a _, ⟨_, Heap.get?_push_size _ rfl, rfl, rfl⟩, fun b hb => ?_, q⟩
    have e : b = s1.heap.objs.size := by simpa using hb
    subst e
    exact I1.fpOk (Nat.le_refl _) (I1.hok.fresh (Nat.le_refl _))
  · subst e
    obtain ⟨t, rfl⟩ := r1
    cases ha : y.cps.all (· < 128)
    · exact wpAny_pyIter_wide ha (pi_one (tk := s1.toks) I1 _ (turn_str _ y t "str_iterator" (.inr rfl)) ⟨_, Heap.get?_push_size _ rfl, rfl, rfl⟩ q)
    · exact wpAny_pyIter_ascii ha (pi_one (tk := s1.toks) I1 _ (turn_str _ y t "str_ascii_iterator" (.inl rfl)) ⟨_, Heap.get?_push_size _ rfl, rfl, rfl⟩ q)
end
section
variable {Γ Γ' : Gm} {κ κ' : Ka} {H H' : Hp} {env env' : En} {σ : Sl} {v : V} {st : Sto} {Y : Fam} {a b e o : Expr} {es : List Expr} {ta tb te to ti : PTE} {pos : Pos}
/-- the small letters, the capitals -/
def SM : List Nat := [97, 98, 99, 100, 101, 102, 103, 104, 105, 106, 107, 108, 109, 110, 111, 112, 113, 114, 115, 116, 117, 118, 119, 120, 121, 122]
def CP : List Nat := [65, 66, 67, 68, 69, 70, 71, 72, 73, 74, 75, 76, 77, 78, 79, 80, 81, 82, 83, 84, 85, 86, 87, 88, 89, 90]
def SMCP : List Nat := SM ++ CP
/-- what one walks in a value -/
def D.walk : D → Option (List D)
  | .lst ds => some ds
  | .tup ds => some ds
  | .str s => some (signs s)
  | _ => none
def iAny (te : PTE) : PTI := fun x e Q => te x e fun r e1 => fz r e1 fun d e2 => match d.walk with
  | some ds => Q ds e2
  | none => False
theorem vi_any {tg : Expr} (he : VE Y e te) : VI Y tg e (iAny te) := by
  obtain ⟨ra, pa, fa⟩ := he.ex
  refine ⟨⟨fun E => iAnyH Y.K (ra E), fun i => by have := pi_any (tg := tg) (pa i); rw [Y.hK i] at this; exact this, fun Γ σ κ H env Q Q' hK I q k => ?_⟩⟩
  refine fa Γ σ κ H env _ _ hK I q fun v κ1 H1 r1 e1 x1 I1 h1 q1 => ?_
  refine fz_ok I1 h1 q1 fun κ2 d e2 x2 I2 h2 q2 => ?_
  rw [← hK.k]
  cases d with
  | lst ds =>
    cases h2 with
    | lst g1 g2 g3 g4 => exact .inl ⟨_, rfl, ⟨_, SqL.of g2⟩, k _ κ2 H1 ds e2 (x1.trans x2) I2 (src_list g1 g2 g4) q2⟩
  | tup ds =>
    obtain ⟨a, vs, rfl, g1, _, _⟩ := h2.sqT
    exact .inr (.inl ⟨a, rfl, ⟨vs, g1⟩, k _ κ2 H1 ds e2 (x1.trans x2) I2 (src_tup (vs := vs) h2) q2⟩)
  | str s =>
    obtain ⟨rfl, hs⟩ := h2.strE
    exact .inr (.inr ⟨_, rfl, k _ κ2 H1 (signs s) e2 (x1.trans x2) I2 (src_str hs) q2⟩)
  | _ => exact False.elim q2
/-- a def of the text behind the top -/
structure DefOk (K : PySem.W.Frag) (mg : Str → Option Value) (x : Str) (st : Stmt) (ps : List Str) (f : Addr) (fd : FuncData) : Prop where
  fn : Fun K x x st f fd
  b : Binds K fd ps []
  g : mg x = some (.ref f)
theorem hu0 {P : Program} {w : World} {K : PySem.W.Frag} {mg : Str → Option Value} {base : Heap} {N : List Str} {qual : Str} {sc : Scope} {f : Addr} {k : Nat} {cls : Cl} {flds : Nat → List Str} : Hu (fam0 P w K mg base N qual sc f k cls flds) := fun i => by
  have h := i.hr.un
  show (i.A.deeper (envOfC qual sc i.s.heap.objs.size f i.cdv)).units + 65 < cLine
  omega
theorem hg0 {P : Program} {w : World} {K : PySem.W.Frag} {mg : Str → Option Value} {base : Heap} {N : List Str} {qual : Str} {sc : Scope} {f : Addr} {k : Nat} {cls : Cl} {flds : Nat → List Str} : ∀ i, ((fam0 P w K mg base N qual sc f k cls flds).X i).A.guards = some [] := fun i => i.gd
theorem hg_blk {sc : Scope} (h : ∀ i, (Y.X i).A.guards = some []) : ∀ i, ((Y.blk sc).X i).A.guards = some [] := fun p => h p.1
theorem hu_blk {sc : Scope} (h : Hu Y) : Hu (Y.blk sc) := fun p => h p.1
abbrev pSub : D → D → (R → Prop) → Prop := pI (fun _ _ => True) fun i j => .int (i - j)
abbrev pMod : D → D → (R → Prop) → Prop := pI (fun _ j => 0 < j) fun i j => .int (i % j)
abbrev pFdiv : D → D → (R → Prop) → Prop := pI CDivW fun i j => .int (i / j)
abbrev pPow : D → D → (R → Prop) → Prop := pI CPow fun i j => .int (i ^ j.toNat)
def pNeg : D → (R → Prop) → Prop := fun d Q => match d with | .int i => Q (.d (.int (-i))) | _ => False
end
end Pu
set_option maxRecDepth 100000
set_option maxHeartbeats 1000000
namespace Pu
open PySem L2 PySem.Spec PyProof.Rows
/-- a sign that a text shows as it is -/
def PlainC (c : Nat) : Prop := 32 ≤ c ∧ c < 127 ∧ c ≠ 39 ∧ c ≠ 92
instance (c : Nat) : Decidable (PlainC c) := by unfold PlainC; infer_instance
mutual
/-- what is shown plainly -/
def D.rok : D → Bool
  | .non => true
  | .bl _ => true
  | .int i => decide (i.natAbs.log2 < 1920)
  | .str s => s.all fun c => decide (PlainC c)
  | .lst ds => D.rokL ds
  | .tup ds => D.rokL ds
  | _ => false
def D.rokL : List D → Bool
  | [] => true
  | d :: ds => d.rok && D.rokL ds
end
mutual
def D.rlen : D → Nat
  | .non => 4
  | .bl _ => 5
  | .int _ => 1921
  | .str s => s.length + 2
  | .lst ds => D.rlenL ds + 2
  | .tup ds => D.rlenL ds + 3
  | _ => 0
def D.rlenL : List D → Nat
  | [] => 0
  | d :: ds => d.rlen + 2 + D.rlenL ds
end
/-- what repr shows -/
def shw (d : D) : List Nat := d.py.shown.cps.toList
end Pu
set_option maxRecDepth 100000
set_option maxHeartbeats 1000000
namespace Pu
open PySem L2 PySem.Spec PyProof.Rows
/-- repr(x) -/
def pRepr : List D → (R → Prop) → Prop
  | [d], Q => d.ok 64 = true ∧ d.rok = true ∧ d.rlen ≤ 16777216 ∧ Q (.d (.str (shw d)))
  | _, _ => False
def minS (x : List Nat) (r : List (List Nat)) : List Nat := r.foldl (fun a y => if y < a then y else a) x
/-- min of a list, of a tuple of texts; of two texts -/
def pMin1 : List D → (R → Prop) → Prop
  | [d], Q => match strL d.items with
    | some (x :: r) => Q (.d (.str (minS x r)))
    | _ => False
  | _, _ => False
def pMin2S : List D → (R → Prop) → Prop
  | [.str x, .str y], Q => Q (.d (.str (if y < x then y else x)))
  | _, _ => False
end Pu
set_option maxRecDepth 100000
set_option maxHeartbeats 4000000
namespace PuE
open PySem PySem.Spec PyProof.Rows L2 RT PySem.W
end PuE
set_option maxRecDepth 100000
set_option maxHeartbeats 4000000
namespace PuE
open PySem PySem.Spec PyProof.Rows L2 SrtO
end PuE
namespace Pu
open PySem L2 PySem.Spec PyProof.Rows
def pr2 (p : Int × Int) : D := .tup [.int p.1, .int p.2]
def prL : List D → Option (List (Int × Int))
  | [] => some []
  | .tup [.int i, .int j] :: ds => match prL ds with
    | some r => some ((i, j) :: r)
    | none => none
  | _ => none
def D.seqs : D → Option (List D)
  | .lst ds => some ds
  | .tup ds => some ds
  | _ => none
/-- sorted(list or tuple of pairs of ints) -/
def pSortP : List D → (R → Prop) → Prop
  | [d], Q => match d.seqs with
    | some ds => match prL ds with
      | some ps => ∀ qs : List (Int × Int), qs.Perm ps → qs.Pairwise (fun x y => SrtO.lexB y x = false) → Q (.own (qs.map pr2))
      | none => False
    | none => False
  | _, _ => False
end Pu
set_option maxRecDepth 100000
set_option maxHeartbeats 4000000
namespace PuE
open PySem PySem.Spec PyProof.Rows L2 PySem.W
def SqB (K : PySem.W.Frag) (H : Hp) (t : Bool) (a : Addr) (xs : List V) : Prop := if t = true then SqT K H a xs else SqL K H a xs
def ItB (h : Heap) (t : Bool) (it a : Addr) (i : Nat) : Prop := if t = true then h.IsTupleIter it a i else h.IsListIter it a i
theorem ItB.keep {h h' : Heap} {t : Bool} {it a : Addr} {i : Nat} (x : ItB h t it a i) (k : ∀ o, h.get? it = some o → h'.get? it = some o) : ItB h' t it a i := by
  unfold ItB at *
  cases t with
  | true => obtain ⟨o, ho, r⟩ := x; exact ⟨o, k o ho, r⟩
  | false => obtain ⟨o, ho, r⟩ := x; exact ⟨o, k o ho, r⟩
theorem ItB.obj {h : Heap} {t : Bool} {it a : Addr} {i : Nat} (x : ItB h t it a i) : ∃ o, h.get? it = some o ∧ ∀ v, o.data ≠ .cell v := by
  unfold ItB at x
  cases t with
  | true => obtain ⟨o, ho, _, hd⟩ := x; exact ⟨o, ho, fun v q => by rw [hd] at q; cases q⟩
  | false => obtain ⟨o, ho, _, hd⟩ := x; exact ⟨o, ho, fun v q => by rw [hd] at q; cases q⟩
theorem drawsB {X : Cx} {pins : List (Addr × Obj)} {σ : L2.St} {H : Hp} {s : Shared} (I : Inv X pins σ H s) (hc : X.calm = true) {t : Bool} {a it : Addr} {xs : List V} (hq : SqB X.K H t a xs) (hne : a ≠ it) :
    ∃ (its : List Value) (St : Nat → Heap → Prop), Vals xs its ∧ xs.length ≤ sizeLine ∧ Draws X.prog X.w X.A.in1 it [it, a] its.length (fun i v => its[i]? = some v) St ∧ (∀ i, ItB s.heap t it a i → St i s.heap) ∧ (∀ i h, St i h → ItB h t it a i) := by
  unfold SqB at hq
  cases t with
  | true =>
    obtain ⟨its, rv, p, hz⟩ := I.tuple hq
    have D := Draws.tuple (prog := X.prog) (w := X.w) (A := X.A.in1) (I.ok.hd hc) it a hne its.toArray
    have e1 : its.toArray.size = its.length := List.size_toArray
    rw [e1] at D
    refine ⟨its, _, rv, hz, ⟨D.live, D.frame, fun i s Q E h1 h2 h3 => D.item i s Q E h1 h2 fun x h' tk y => h3 x h' tk (by simpa using y), D.done⟩, fun i h => ⟨h, p⟩, fun i h x => x.1⟩
  | false =>
    obtain ⟨its, rv, p, hz⟩ := I.list hq
    have D := Draws.list (prog := X.prog) (w := X.w) (A := X.A.in1) (I.ok.hd hc) it a hne its.toArray
    have e1 : its.toArray.size = its.length := List.size_toArray
    rw [e1] at D
    refine ⟨its, _, rv, hz, ⟨D.live, D.frame, fun i s Q E h1 h2 h3 => D.item i s Q E h1 h2 fun x h' tk y => h3 x h' tk (by simpa using y), D.done⟩, fun i h => ⟨h, p.isList⟩, fun i h x => x.1⟩
theorem SqB.inj {X : Cx} {pins : List (Addr × Obj)} {σ : L2.St} {H : Hp} {s : Shared} (I : Inv X pins σ H s) {t : Bool} {a : Addr} {xs ys : List V} (h : SqB X.K H t a xs) (g : SqB X.K H t a ys) : xs = ys := by
  unfold SqB at h g
  cases t with
  | true => exact I.tuple_inj h g
  | false => exact I.list_inj h g
def Izb (K : PySem.W.Frag) (ta : Bool) (a : Addr) (tb : Bool) (b : Addr) : It :=
  ⟨fun i H => ∃ (xs ys : List V) (x y : V), SqB K H ta a xs ∧ SqB K H tb b ys ∧ xs[i]? = some x ∧ ys[i]? = some y,
    fun i H v H' => ∃ T x y, v = .ref T ∧ H T = none ∧ H' = upd H T (.tup [x, y]) ∧ (∀ xs, SqB K H ta a xs → xs[i]? = some x) ∧ ∀ ys, SqB K H tb b ys → ys[i]? = some y,
    fun i H => ∃ xs ys : List V, SqB K H ta a xs ∧ SqB K H tb b ys ∧ i ≤ xs.length ∧ i ≤ ys.length ∧ (i = xs.length ∨ i = ys.length)⟩
theorem turn_zb {P : Program} {w : World} {K : PySem.W.Frag} {elts : List Expr} {kk : Nat} {tpos : Pos} {ta tb : Bool} {a b z TI TO i1 i2 : Addr} (S : ZipSep2 z TI TO i1 i2 [i1, a] [i2, b]) (n1 : a ≠ i1) (n2 : b ≠ i2) :
    Turn P w K (.Tuple elts kk tpos) (Izb K ta a tb b) [z, TI, TO, i1, i2] z (fun i h => IsZip h z TI TO .none ∧ IsTupOf2 h TI (.ref i1) (.ref i2) ∧ (∃ x y, IsTupOf2 h TO x y) ∧ ItB h ta i1 a i ∧ ItB h tb i2 b i) where
  mem := by simp
  obj := fun i h st c hc => by
    obtain ⟨hz, hTI, ⟨x, y, hTO⟩, h1, h2⟩ := st
    have e' : c = z ∨ c = TI ∨ c = TO ∨ c = i1 ∨ c = i2 := by simpa using hc
    rcases e' with q | q | q | q | q
    · rw [q]; exact ⟨_, hz, fun v q => nomatch q⟩
    · rw [q]; exact ⟨_, hTI, fun v q => nomatch q⟩
    · rw [q]; exact ⟨_, hTO, fun v q => nomatch q⟩
    · rw [q]; exact h1.obj
    · rw [q]; exact h2.obj
  keep := fun i h h' st k => by
    obtain ⟨hz, hTI, ⟨x, y, hTO⟩, h1, h2⟩ := st
    exact ⟨k z (by simp) _ hz, k TI (by simp) _ hTI, ⟨x, y, k TO (by simp) _ hTO⟩, h1.keep fun o q => k i1 (by simp) o q, h2.keep fun o q => k i2 (by simp) o q⟩
  item := by
    intro X hP hw hK hc i pins s σ H E I hf st hg
    subst hP hw hK
    obtain ⟨hz, hTI, ⟨x0, y0, hTO⟩, h1, h2⟩ := st
    obtain ⟨xs, ys, x, y, hqx, hqy, hx, hy⟩ := hg
    obtain ⟨its, St1, rv, _, D1, d1, d1'⟩ := drawsB I hc (it := i1) hqx n1
    obtain ⟨its2, St2, rv2, _, D2, d2, d2'⟩ := drawsB I hc (it := i2) hqy n2
    obtain ⟨u, hu, ru⟩ := rv.get hx
    obtain ⟨u2, hu2, ru2⟩ := rv2.get hy
    have hzl : z < s.heap.objs.size := Heap.lt_size hz
    refine wpAny_pyNext_zipD2_item S D1 D2 hz hTI hTO (d1 i h1) (d2 i h2) (List.getElem?_eq_some_iff.mp hu).1 (List.getElem?_eq_some_iff.mp hu2).1 fun v1 v2 h' tk p1 p2 z' TO' g1 g2 hT hsz hk => ?_
    have p1 : its[i]? = some v1 := p1
    have p2 : its2[i]? = some v2 := p2
    rw [hu] at p1
    rw [hu2] at p2
    cases p1
    cases p2
    refine ⟨_, rfl, wpAny_letOwnedTupleGo_zip (s := { s with heap := h', toks := tk }) z' fun h'' z'' sb => ?_⟩
    have hT2 : h''.get? s.heap.objs.size = some { cls := .type "tuple", data := .seq #[u, u2] } := (sb.2 _ (Nat.ne_of_gt hzl)).trans hT
    have new : ObjOk X.prog X.w (upd H s.heap.objs.size (.tup [x, y])) h'' s.heap.objs.size (.tup [x, y]) :=
      ⟨by show 2 ≤ sizeLine; decide, [u, u2], .cons ru (.cons ru2 .nil), ⟨_, hT2, rfl, _, rfl⟩⟩
    have I1 : Inv X pins σ (upd H s.heap.objs.size (.tup [x, y])) { s with heap := h'', toks := tk } :=
      I.turnedNew (t' := tk) (ch := [z, TI, TO, i1, i2]) (fun c o hb q => (sb.2 c (fun q' => hb (by simp [q']))).trans (hk c o (fun q' => hb (by simp [q'])) (fun q' => hb (by simp [q'])) (fun q' => hb (by simp [q'])) (fun q' => hb (by simp [q'])) q)) hf (Nat.le_refl _) new
    refine ⟨.ref s.heap.objs.size, _, I1, rfl, ⟨_, x, y, rfl, I.hok.fresh (Nat.le_refl _), rfl, fun l hl => by rw [SqB.inj I hl hqx]; exact hx, fun l hl => by rw [SqB.inj I hl hqy]; exact hy⟩, ⟨z'', ?_, ⟨u, u2, ?_⟩, ?_, ?_⟩, fun c hcm => ?_⟩
    · have k1 := hk _ _ S.TIz S.TITO S.TIi1 S.TIi2 hTI
      exact (sb.2 _ S.TIz).trans k1
    · exact (sb.2 _ S.TOz).trans TO'
    · exact (d1' _ _ g1).keep fun o q => (sb.2 _ (Ne.symm S.zi1)).trans q
    · exact (d2' _ _ g2).keep fun o q => (sb.2 _ (Ne.symm S.zi2)).trans q
    · have hlt : c < s.heap.objs.size := by
        have e' : c = z ∨ c = TI ∨ c = TO ∨ c = i1 ∨ c = i2 := by simpa using hcm
        rcases e' with q | q | q | q | q
        · rw [q]; exact hzl
        · rw [q]; exact Heap.lt_size hTI
        · rw [q]; exact Heap.lt_size hTO
        · rw [q]; obtain ⟨_, e1, _⟩ := h1.obj; exact Heap.lt_size e1
        · rw [q]; obtain ⟨_, e2, _⟩ := h2.obj; exact Heap.lt_size e2
      rw [upd_ne (Nat.ne_of_lt hlt)]
      exact (hf c hcm).1
  done := by
    intro X hP hw hK hc i pins s σ H E I hf st hg
    subst hP hw hK
    obtain ⟨hz, hTI, ⟨x0, y0, hTO⟩, h1, h2⟩ := st
    obtain ⟨xs, ys, hqx, hqy, le1, le2, hend⟩ := hg
    obtain ⟨its, St1, rv, _, D1, d1, d1'⟩ := drawsB I hc (it := i1) hqx n1
    obtain ⟨its2, St2, rv2, _, D2, d2, d2'⟩ := drawsB I hc (it := i2) hqy n2
    have l1 := rv.length
    have l2 := rv2.length
    exact wpAny_pyNext_zipD2_end S D1 D2 hz hTI hTO (d1 i h1) (d2 i h2) (by omega) (by omega) (by omega) fun h' tk hk => ⟨rfl, I.turnedL (t' := tk) (ch := [z, TI, TO, i1, i2]) (fun c o hb q =>
      hk c o (fun q' => hb (by simp [q'])) (fun q' => hb (by simp [q'])) (fun q' => hb (by simp [q'])) (fun q' => hb (by simp [q'])) q) hf⟩
  self := fun A i s Q E st h => wpAny_pyIter_zip st.1 h
def iZipB (K : PySem.W.Frag) (ta : TA) : TI := fun σ H R => ta σ H fun vs H1 => ∃ a b t1 t2 xs ys, vs = [.ref a, .ref b] ∧ SqB K H1 t1 a xs ∧ SqB K H1 t2 b ys ∧ R (Izb K t1 a t2 b) H1
theorem beginsB {X : Cx} {pins : List (Addr × Obj)} {σ : L2.St} {H : Hp} {s : Shared} (I : Inv X pins σ H s) {t : Bool} {a : Addr} {xs : List V} (hq : SqB X.K H t a xs) :
    ∃ o Hh, Begins (.ref a) o Hh ∧ Hh s.heap ∧ a < s.heap.objs.size ∧ ∀ h' N, h'.get? N = some o → ItB h' t N a 0 := by
  unfold SqB at hq
  cases t with
  | true =>
    obtain ⟨its, rv, p, hz⟩ := I.tuple hq
    have p : s.heap.IsTuple a its.toArray := p
    exact ⟨_, _, begins_tuple a its.toArray, p, by obtain ⟨o, ho, _⟩ := p; exact Heap.lt_size ho, fun h' N h => ⟨_, h, rfl, rfl⟩⟩
  | false =>
    obtain ⟨its, rv, p, hz⟩ := I.list hq
    exact ⟨_, _, begins_list a its.toArray, p.isList, p.lt, fun h' N h => ⟨_, h, rfl, rfl⟩⟩
theorem pi_zipB {X : Cx} {e e2 : Expr} {ta : TA} {p pos tpos : Pos} {elts : List Expr} {kk : Nat} (hg : Gl X "zip") (hm : X.mg "zip" = none) (ha : PA X [e, e2] ta)
    (hs : starEach [e, e2] X.env = (false, eval e X.env) :: starEach [e2] X.env := by rfl) (hpl : (backTo pos (starEach [e2] X.env)).any (·.1) = false := by rfl) :
    PI X (.Tuple elts kk tpos) (.Call (.Name "zip" p) [e, e2] [] pos) (iZipB X.K ta) := by
  refine ⟨fun pins s σ H R I h => ?_⟩
  refine Call_ (ld_blt I hg hm PyProof.Rows.boot_zip (PyProof.Rows.callWith_type1 (thn (ha.run pos pins s σ H _ I h) fun us s1 ⟨vs, H1, I1, r1, q1⟩ => ?_) hs hpl))
  obtain ⟨a, b, t1, t2, xs, ys, ex, hqx, hqy, q⟩ := q1
  subst ex
  cases r1 with
  | cons r rr =>
    cases rr with
    | cons r' rr =>
      cases rr
      cases r
      cases r'
      obtain ⟨o1, G1, B1, h1, la, w1⟩ := beginsB I1 hqx
      obtain ⟨o2, G2, B2, h2, lb, w2⟩ := beginsB I1 hqy
      refine zip_begins2 B1 B2 h1 h2 fun h' hz hTI hTO g1 g2 hsz hk => wpAny_pyIter_zip hz ?_
      have I2 : Inv X pins σ H1 { s1 with heap := h' } := I1.kept (t' := s1.toks) hk
      have S := zip_sep2 (N := s1.heap.objs.size) (fp1 := [a]) (fp2 := [b]) (fun c hc => by rw [show c = a from (by simpa using hc)]; exact la) (fun c hc => by rw [show c = b from (by simpa using hc)]; exact lb)
      refine ⟨s1.heap.objs.size + 4, [s1.heap.objs.size + 4, s1.heap.objs.size + 2, s1.heap.objs.size + 3, s1.heap.objs.size, s1.heap.objs.size + 1], _, _, H1, rfl, I2, turn_zb S (Nat.ne_of_lt la) (Nat.ne_of_lt (Nat.lt_succ_of_lt lb)), ⟨hz, hTI, ⟨_, _, hTO⟩, w1 _ _ g1, w2 _ _ g2⟩, fun c hcm => ?_, q⟩
      have e' : c = s1.heap.objs.size + 4 ∨ c = s1.heap.objs.size + 2 ∨ c = s1.heap.objs.size + 3 ∨ c = s1.heap.objs.size ∨ c = s1.heap.objs.size + 1 := by simpa using hcm
      have hle : s1.heap.objs.size ≤ c := by
        rcases e' with z | z | z | z | z
        · rw [z]; exact Nat.le_add_right _ _
        · rw [z]; exact Nat.le_add_right _ _
        · rw [z]; exact Nat.le_add_right _ _
        · rw [z]; exact Nat.le_refl _
        · rw [z]; exact Nat.le_add_right _ _
      exact I1.fpOk hle (I1.hok.fresh hle)
end PuE
namespace Pu
open PySem L2 PySem.Spec PyProof.Rows
section
variable {Γ Γ' : Gm} {κ κ' : Ka} {H H' : Hp} {env env' : En} {σ : Sl} {v : V} {st : Sto} {Y : Fam} {a b e o : Expr} {es : List Expr} {ta tb te to ti : PTE} {pos : Pos}
def zipF : List D → List D → List D
  | x :: xs, y :: ys => .tup [x, y] :: zipF xs ys
  | _, _ => []
theorem zipF_get : ∀ (xs ys : List D) (i : Nat), (zipF xs ys)[i]? = match xs[i]?, ys[i]? with | some x, some y => some (.tup [x, y]) | _, _ => none
  | [], ys, i => by simp [zipF]
  | x :: xs, [], i => by
    simp only [zipF, List.getElem?_nil]
    cases (x :: xs)[i]? <;> rfl
  | x :: xs, y :: ys, 0 => by simp [zipF]
  | x :: xs, y :: ys, i + 1 => by
    rw [zipF, List.getElem?_cons_succ, List.getElem?_cons_succ, List.getElem?_cons_succ, zipF_get xs ys i]
theorem zipF_len : ∀ (xs ys : List D), (zipF xs ys).length = min xs.length ys.length
  | [], ys => by simp [zipF]
  | x :: xs, [] => by simp [zipF]
  | x :: xs, y :: ys => by
    rw [zipF, List.length_cons, zipF_len xs ys, List.length_cons, List.length_cons]
    omega
/-- a list or tuple that stays, as it is walked -/
def D.side : D → Option (Bool × List D)
  | .lst ds => some (false, ds)
  | .tup ds => some (true, ds)
  | _ => none
theorem side_ok {d : D} {t : Bool} {ds : List D} (h : Rep Γ.K Γ.cls κ H v d) (e : d.side = some (t, ds)) : ∃ a, v = .ref a ∧ ∀ (κ1 : Ka) (H1 : Hp), Ext κ H κ1 H1 → ∃ vs, PuE.SqB Γ.K H1 t a vs ∧ RepL Γ.K Γ.cls κ1 H1 vs ds := by
  cases d with
  | lst xs =>
    cases e
    cases h with
    | lst g1 g2 g3 g4 => exact ⟨_, rfl, fun κ1 H1 x => ⟨_, SqL.of ((x.2 _ g1).trans g2), g4.mono x⟩⟩
  | tup xs =>
    cases e
    obtain ⟨a, vs, rfl, _⟩ := h.sqT
    refine ⟨a, rfl, fun κ1 H1 x => ?_⟩
    obtain ⟨b, ws, e0, h1, _, r⟩ := (h.mono x).sqT
    cases e0
    exact ⟨ws, h1, r⟩
  | _ => cases e
theorem src_zb {a b : Addr} {t1 t2 : Bool} {ds es : List D} (hz : ∀ d ∈ ds, isPr d = false) (h1 : ∀ (κ1 : Ka) (H1 : Hp), Ext κ H κ1 H1 → ∃ vs, PuE.SqB Γ.K H1 t1 a vs ∧ RepL Γ.K Γ.cls κ1 H1 vs ds) (h2 : ∀ (κ1 : Ka) (H1 : Hp), Ext κ H κ1 H1 → ∃ vs, PuE.SqB Γ.K H1 t2 b vs ∧ RepL Γ.K Γ.cls κ1 H1 vs es) : Src Γ.K Γ.cls κ H (PuE.Izb Γ.K t1 a t2 b) (zipF ds es) := by
  intro Γ2 hK hc σ κ1 H1 env i I x
  rw [← hK, ← hc] at h1 h2
  rw [← hK]
  obtain ⟨vs, s1, r1⟩ := h1 κ1 H1 x
  obtain ⟨ws, s2, r2⟩ := h2 κ1 H1 x
  refine ⟨fun d e => ?_, fun e => ⟨vs, ws, s1, s2, ?_⟩⟩
  · rw [zipF_get] at e
    cases q1 : ds[i]? with
    | none => rw [q1] at e; cases e
    | some y1 =>
      cases q2 : es[i]? with
      | none => rw [q1, q2] at e; cases e
      | some y2 =>
        rw [q1, q2] at e
        cases e
        obtain ⟨v1, e1, p1⟩ := r1.get q1
        obtain ⟨v2, e2, p2⟩ := r2.get q2
        refine ⟨⟨vs, ws, v1, v2, s1, s2, e1, e2⟩, fun w H' yy => ?_⟩
        obtain ⟨T, z1, z2, rfl, hT, rfl, hz1, hz2⟩ := yy
        have hz1 := hz1 vs s1
        have hz2 := hz2 ws s2
        rw [e1] at hz1
        rw [e2] at hz2
        cases hz1
        cases hz2
        exact ⟨_, new_tup (by show (isPr y1 && [y2].all isPr) = false; rw [hz _ (List.mem_of_getElem? q1)]; rfl) I hT (by show 2 ≤ sizeLine; decide) (.cons p1 (.cons p2 .nil))⟩
  · rw [zipF_len] at e
    have l1 := r1.length
    have l2 := r2.length
    omega
def iZipP (t : PTR) : PTI := fun x e Q => t x e fun rs e1 => match rs with
  | [r1, r2] => fz r1 e1 fun d1 e2 => fz r2 e2 fun d2 e3 => match d1.side, d2.side with
    | some (_, ds), some (_, es) => (∀ d ∈ ds, isPr d = false) ∧ Q (zipF ds es) e3
    | _, _ => False
  | _ => False
theorem vi_zip {elts : List Expr} {kk : Nat} {tpos : Pos} {p : Pos} {t : PTR} {e2 : Expr} (hm : ∀ i, (Y.X i).mg "zip" = none) (ha : VR Y [e, e2] t) (hg : ∀ i, Gl (Y.X i) "zip" := by intro _; rfl)
    (hs : ∀ X : Cx, starEach [e, e2] X.env = (false, eval e X.env) :: starEach [e2] X.env := by intro _; rfl) (hpl : ∀ X : Cx, (backTo pos (starEach [e2] X.env)).any (·.1) = false := by intro _; rfl) :
    VI Y (.Tuple elts kk tpos) (.Call (.Name "zip" p) [e, e2] [] pos) (iZipP t) := by
  obtain ⟨ra, pa, fa⟩ := ha.ex
  refine ⟨⟨fun E => PuE.iZipB Y.K (ra E), fun i => by have := PuE.pi_zipB (elts := elts) (kk := kk) (tpos := tpos) (p := p) (pos := pos) (hg i) (hm i) (pa i) (hs _) (hpl _); rw [Y.hK i] at this; exact this, fun Γ σ κ H env Q Q' hK I q k => ?_⟩⟩
  refine fa Γ σ κ H env _ _ hK I q fun vs κ1 H1 rs e1 x1 I1 h1 q1 => ?_
  match rs, vs, h1, q1 with
  | [r1, r2], [v1, v2], .cons h1 (.cons h2 .nil), q1 =>
    refine fz_ok I1 h1.rel q1 fun κ2 d1 e2 x2 I2 g1 q2 => ?_
    refine fz_ok I2 (h2.ext x2).rel q2 fun κ3 d2 e3 x3 I3 g2 q3 => ?_
    rw [← hK.k]
    cases s1 : d1.side with
    | none => rw [s1] at q3; exact q3.elim
    | some p1 =>
      cases s2 : d2.side with
      | none => rw [s1, s2] at q3; exact q3.elim
      | some p2 =>
        obtain ⟨t1, ds⟩ := p1
        obtain ⟨t2, es⟩ := p2
        rw [s1, s2] at q3
        obtain ⟨a, rfl, w1⟩ := side_ok (g1.mono x3) s1
        obtain ⟨b, rfl, w2⟩ := side_ok g2 s2
        obtain ⟨xs, z1, _⟩ := w1 κ3 H1 (.refl ..)
        obtain ⟨ys, z2, _⟩ := w2 κ3 H1 (.refl ..)
        exact ⟨a, b, t1, t2, xs, ys, rfl, z1, z2, k _ κ3 H1 _ e3 ((x1.trans x2).trans x3) I3 (src_zb q3.1 w1 w2) q3.2⟩
  | [], _, _, q1 => exact False.elim q1
  | [_], _, _, q1 => exact False.elim q1
  | _ :: _ :: _ :: _, _, _, q1 => exact False.elim q1
/-- sum of ints -/
def intL : List D → Option (List Int)
  | [] => some []
  | .int i :: ds => match intL ds with
    | some r => some (i :: r)
    | none => none
  | _ => none
def pSum : List D → (R → Prop) → Prop
  | [.lst ds], Q => match intL ds with
    | some r => Q (.d (.int r.sum))
    | none => False
  | _, _ => False
/-- text.count(sign) -/
def pCount (d : D) (ds : List D) (Q : R → Prop) : Prop := match d, ds with
  | .str l, [.str [c]] => Q (.d (.int (l.count c : Nat)))
  | _, _ => False
/-- name += int -/
def sAug (i : Nat) (te : PTE) : PTS := fun x P e => match e.sl[i]? with
  | some (.d (.int a)) => te x e fun r e1 => match rv r e1 with
    | some (.int b) => i < e1.sl.length ∧ P.nx (e1.setC i (.d (.int (a + b))))
    | _ => False
  | _ => False
end
end Pu
set_option maxRecDepth 100000
set_option maxHeartbeats 1000000
namespace Pu
open PySem L2 PySem.Spec PyProof.Rows
/-- sorted(list of texts), sorted(text): some order of them that never falls -/
def pSortT : List D → (R → Prop) → Prop
  | [.lst ds], Q => match strL ds with
    | some r => r.length < 64 ∧ ∀ r' : List (List Nat), r'.Perm r → sortedS (r'.map fun s => (⟨s.toArray⟩ : Str)) = true → Q (.own (r'.map D.str))
    | none => False
  | [.str s], Q => s.length < 64 ∧ ∀ r' : List (List Nat), r'.Perm (s.map fun c => [c]) → sortedS (r'.map fun s => (⟨s.toArray⟩ : Str)) = true → Q (.own (r'.map D.str))
  | _, _ => False
end Pu
set_option maxRecDepth 100000
set_option maxHeartbeats 4000000
namespace PuE
open PySem PySem.Spec PyProof.Rows L2 PySem.W
theorem meets_enum_any {v : Value} {o : Obj} {H : Heap → Prop} (B : Begins v o H) :
    Meets (Builtin.«enumerate.__new__» ⟨[.type "enumerate", v], []⟩) (fun _ R s => H s.heap ∧
      R (.ok (.ret (.ref (s.heap.push o).objs.size))) { s with heap := (s.heap.push o).push { cls := .type "enumerate", data := .fields #[.none, .bool false, .ref s.heap.objs.size, rawInt 0, .none, .none] } }) :=
  .of_wp fun prog w A R s z => by
    obtain ⟨hp, g, d, tk, os⟩ := s
    obtain ⟨z1, z⟩ := z
    have hs0 := sub_enumerate
    have it1 : ∀ {A' : Around} {E : Value → Shared → Prop} {Q : Value → Shared → Prop}, Q (.ref hp.objs.size) ⟨hp.push o, g, d, tk, os⟩ → wpAny (model prog w) A' (pyIter v) Q E ⟨hp, g, d, tk, os⟩ :=
      fun q => B.iter prog w _ _ ⟨hp, g, d, tk, os⟩ _ z1 q
    wp_walk using it1
    refine wpAny_stack_any fun st => wpAny_pure ?_
    split
    · rename_i c _ _ _ _ _
      cases (c == Value.type "enumerate")
      · wp_walk using it1
        exact ⟨_, rfl, z⟩
      · wp_walk using it1
        exact ⟨_, rfl, z⟩
    · wp_walk using it1
      exact ⟨_, rfl, z⟩
section
variable {prog : Program} {w : World} {A : Around} {E : Value → Shared → Prop} {s : Shared}
theorem call_enum_any {v : Value} {o : Obj} {H : Heap → Prop} {Q : Value → Shared → Prop} (B : Begins v o H) (h1 : H s.heap)
    (h : ∀ h', IsEnum h' (s.heap.objs.size + 1) s.heap.objs.size ((0 : Nat) : Int) .none → h'.get? s.heap.objs.size = some o → (∀ b o, s.heap.get? b = some o → h'.get? b = some o) → Q (.ref (s.heap.objs.size + 1)) { s with heap := h' }) :
    wpAny (model prog w) A (call (.type "enumerate") [v]) Q E s := by
  refine callType_new F.called_enumerate (by decide) (F.typeCall_enumerate_1 _) (F.newCall_enumerate_1 _) (fun obj => F.args_object_init_2 obj _) F.entry_enumerate_new
    (meets_enum_any B) ⟨h1, ?_⟩
  have hz : (s.heap.push o).objs.size = s.heap.objs.size + 1 := Heap.size_push ..
  show _ ∧ _
  rw [hz]
  have e1 := Heap.get?_push_size (s.heap.push o) (o := { cls := .type "enumerate", data := .fields #[.none, .bool false, .ref s.heap.objs.size, rawInt 0, .none, .none] }) rfl
  rw [hz] at e1
  exact ⟨⟨_, e1, rfl⟩, h _ e1 (Heap.get?_push_of_some _ (Heap.get?_push_size _ B.free)) fun b o x => Heap.get?_push_of_some _ (Heap.get?_push_of_some _ x)⟩
end
/-- the signs of x, each in a new pair -/
def Ies (x : Str) : It :=
  ⟨fun i _ => i < x.cps.size, fun i H v H' => ∃ T c, v = .ref T ∧ H T = none ∧ H' = upd H T (.tup [.int (i : Nat), .str ⟨#[c]⟩]) ∧ x.cps[i]? = some c, fun i _ => x.cps.size ≤ i⟩
/-- the items of the tuple at a, each in a new pair -/
def Iet (K : PySem.W.Frag) (a : Addr) : It :=
  ⟨fun i H => ∃ (xs : List V) (x : V), SqT K H a xs ∧ xs[i]? = some x, fun i H v H' => ∃ T x, v = .ref T ∧ H T = none ∧ H' = upd H T (.tup [.int (i : Nat), x]) ∧ ∀ xs, SqT K H a xs → xs[i]? = some x, fun i H => ∃ xs : List V, SqT K H a xs ∧ xs.length ≤ i⟩
/-- one turn, whatever is drawn -/
theorem turn_en {X : Cx} {pins : List (Addr × Obj)} {s : Shared} {σ : L2.St} {H : Hp} {E : Value → Shared → Prop} {e it : Addr} {fp : List Addr} {n i : Nat} {Pd : Nat → Value → Prop} {St : Nat → Heap → Prop} {old : Value} {elts : List Expr} {kk : Nat} {tpos : Pos} {R : V → Hp → Heap → Prop}
    (D : Draws X.prog X.w X.A.in1 it fp n Pd St) (I : Inv X pins σ H s) (hf : ∀ b ∈ [e, it], FpOk X pins H b) (he : IsEnum s.heap e it ((i : Nat) : Int) old) (hst : St i s.heap) (hlt : i < n) (hne : e ≠ it) (hef : e ∉ fp)
    (hR : ∀ u h2, Pd i u → St (i + 1) h2 → ∃ x, RelV x u ∧ ∀ T, H T = none → R (.ref T) (upd H T (.tup [.int (i : Nat), x])) h2) :
    wpAny (model X.prog X.w) X.A (pyNext (.ref e)) (fun r s1 => ∃ u, r = some u ∧
      wpAny (model X.prog X.w) X.A (letOwnedTupleGo (.Tuple elts kk tpos) (.ref e) u) (fun _ s2 => ∃ x H', Inv X pins σ H' s2 ∧ RelV x u ∧ R x H' s2.heap ∧ (∃ old, IsEnum s2.heap e it ((i + 1 : Nat) : Int) old) ∧ St (i + 1) s2.heap ∧ ∀ b ∈ [e, it], H' b = none) E s1) E s := by
  have hel : e < s.heap.objs.size := Heap.lt_size he
  have hil : it < s.heap.objs.size := by obtain ⟨_, y⟩ := D.live _ _ hst; exact Heap.lt_size y
  refine wpAny_pyNext_enum_itemD D he hst hlt hne hef fun u h' tk hP ho hs' hT hsz hk => ?_
  refine ⟨_, rfl, wpAny_letOwnedTupleGo_enum (s := { s with heap := h', toks := tk + 1 }) ho fun h'' he' sb => ?_⟩
  have hs2 : St (i + 1) h'' := D.frame _ _ _ hs' fun b hb o y => (sb.2 b fun q => hef (q ▸ hb)).trans y
  obtain ⟨x, rx, hx⟩ := hR u h'' hP hs2
  have hT2 : h''.get? s.heap.objs.size = some { cls := .type "tuple", data := .seq #[.int i tk, u] } := (sb.2 _ (Nat.ne_of_gt hel)).trans hT
  have new : ObjOk X.prog X.w (upd H s.heap.objs.size (.tup [.int (i : Nat), x])) h'' s.heap.objs.size (.tup [.int (i : Nat), x]) :=
    ⟨by show 2 ≤ sizeLine; decide, [.int i tk, u], .cons ⟨_, rfl⟩ (.cons rx .nil), ⟨_, hT2, rfl, _, rfl⟩⟩
  have I1 : Inv X pins σ (upd H s.heap.objs.size (.tup [.int (i : Nat), x])) { s with heap := h'', toks := tk + 1 } :=
    I.turnedNew (ch := [e, it]) (fun b ob hb q => (sb.2 b (fun z => hb (by simp [z]))).trans (hk b ob (fun z => hb (by simp [z])) (fun z => hb (by simp [z])) q)) hf (Nat.le_refl _) new
  refine ⟨.ref s.heap.objs.size, _, I1, rfl, hx _ (I.hok.fresh (Nat.le_refl _)), ⟨u, ?_⟩, hs2, fun b hb => ?_⟩
  · have e1 : ((i + 1 : Nat) : Int) = (i : Int) + 1 := by omega
    rw [e1]; exact he'
  · have hb' : b < s.heap.objs.size := by
      have e' : b = e ∨ b = it := by simpa using hb
      rcases e' with z | z
      · rw [z]; exact hel
      · rw [z]; exact hil
    rw [upd_ne (Nat.ne_of_lt hb')]
    exact (hf b hb).1
theorem turn_enS {P : Program} {w : World} {K : PySem.W.Frag} {elts : List Expr} {kk : Nat} {tpos : Pos} (e it : Addr) (x : Str) (t : Tok) :
    Turn P w K (.Tuple elts kk tpos) (Ies x) [e, it] e (fun i h => (∃ old, IsEnum h e it ((i : Nat) : Int) old) ∧ h.IsStrIter it (strIterType x) x t i ∧ e ≠ it) where
  mem := by simp
  obj := fun i h st b hb => by
    obtain ⟨⟨old, he⟩, ⟨o, ho, hc, hd⟩, _⟩ := st
    have e' : b = e ∨ b = it := by simpa using hb
    rcases e' with z | z
    · rw [z]; exact ⟨_, he, fun v q => nomatch q⟩
    · rw [z]; exact ⟨o, ho, fun v q => by rw [hd] at q; cases q⟩
  keep := fun i h h' st k => by
    obtain ⟨⟨old, he⟩, ⟨o, ho, r⟩, hne⟩ := st
    exact ⟨⟨old, k e (by simp) _ he⟩, ⟨o, k it (by simp) o ho, r⟩, hne⟩
  item := by
    intro X hP hw hK hc i pins s σ H E I hf st hg
    subst hP hw hK
    obtain ⟨⟨old, he⟩, hit, hne⟩ := st
    have D := Draws.text (prog := X.prog) (w := X.w) (A := X.A.in1) (I.ok.hd hc) it x t
    refine wpAny_mono (turn_en (elts := elts) (kk := kk) (tpos := tpos) (R := fun v H' _ => (Ies x).yld i H v H') D I hf he hit hg hne (by simpa using hne) fun u h2 hP _ => ?_) (fun r s1 ⟨u, e1, q⟩ => ⟨u, e1, wpAny_mono q (fun _ s2 ⟨v, H', a, b, c, d, f, g⟩ => ⟨v, H', a, b, c, ⟨d, f, hne⟩, g⟩) fun _ _ z => z⟩) fun _ _ z => z
    obtain ⟨c, u', hcx, rfl⟩ := hP
    exact ⟨.str ⟨#[c]⟩, ⟨u', rfl⟩, fun T hT => ⟨T, c, rfl, hT, rfl, hcx⟩⟩
  done := by
    intro X hP hw hK hc i pins s σ H E I hf st hg
    subst hP hw hK
    obtain ⟨⟨old, he⟩, hit, hne⟩ := st
    obtain ⟨f0, f1, f2, f3, f4, f5⟩ := hf it (by simp)
    have hg : x.cps.size ≤ i := hg
    have hx : x.cps[i]? = none := by simp; omega
    have hT : s.TypeIs (.ref e) "enumerate" := ⟨_, he, rfl⟩
    unfold pyNext
    refine wpAny_bind (wpAny_attempt (wpAny_callSpecial?_slot (name := Str.ofString "__next__") hT F.slot_enumerate_next
      (wpAny_call_entry F.slot_enumerate_next hT F.entry_enumerate_next ?_ (F.args_enumerate_next_1 _))))
    show wpAny _ _ (field (.ref e) 2 >>= _) _ _ _
    refine wpAny_bind (wpAny_field he rfl (x := .ref it) rfl ?_)
    refine wpAny_bind ?_
    have fin : ∀ (h' : Heap) (b : Addr), Heap.ExtBut it s.heap h' → (∃ o, h'.get? b = some o ∧ o.cls = .type "StopIteration") →
      wpAny (model X.prog X.w) X.A.in1 (Builtin.SmallTypes.nextOf (.ref it)) (fun _ _ => True) (fun _ _ => True) s → True := fun _ _ _ _ _ => trivial
    have go : ∀ {Q : Value → Shared → Prop} {Ee : Value → Shared → Prop}, (∀ h' e, Heap.ExtBut it s.heap h' → (∃ o, h'.get? e = some o ∧ o.cls = .type "StopIteration") → Ee (.ref e) { s with heap := h' }) → wpAny (model X.prog X.w) X.A.in1 (Builtin.SmallTypes.nextOf (.ref it)) Q Ee s := by
      intro Q Ee q
      cases ha : x.cps.all (· < 128)
      · simp only [strIterType, ha, Bool.false_eq_true, if_false] at hit
        exact wpAny_nextOf_wide_end (I.ok.hd hc) hit hx q
      · simp only [strIterType, ha, if_true] at hit
        exact wpAny_nextOf_ascii_end (I.ok.hd hc) hit hx q
    refine go fun h' x' he' hx' => ?_
    obtain ⟨o, ho, hcl⟩ := hx'
    refine wpAny_bind (wpAny_isInstance (T := "StopIteration") (b := true) ⟨o, ho, hcl⟩ isSubtype_stop ?_)
    exact wpAny_pure ⟨rfl, I.turned (t' := s.toks) (fun b o hb q => he' b o hb q) f0 f1 f3 f4 f5⟩
  self := fun A i s Q E st h => let ⟨⟨_, he⟩, _⟩ := st; wpAny_pyIter_enum he h
theorem turn_enT {P : Program} {w : World} {K : PySem.W.Frag} {elts : List Expr} {kk : Nat} {tpos : Pos} (a e it : Addr) :
    Turn P w K (.Tuple elts kk tpos) (Iet K a) [e, it] e (fun i h => (∃ old, IsEnum h e it ((i : Nat) : Int) old) ∧ h.IsTupleIter it a i ∧ e ≠ it ∧ a ≠ it ∧ e ≠ a) where
  mem := by simp
  obj := fun i h st b hb => by
    obtain ⟨⟨old, he⟩, ⟨o, ho, hc, hd⟩, _⟩ := st
    have e' : b = e ∨ b = it := by simpa using hb
    rcases e' with z | z
    · rw [z]; exact ⟨_, he, fun v q => nomatch q⟩
    · rw [z]; exact ⟨o, ho, fun v q => by rw [hd] at q; cases q⟩
  keep := fun i h h' st k => by
    obtain ⟨⟨old, he⟩, ⟨o, ho, r⟩, hne⟩ := st
    exact ⟨⟨old, k e (by simp) _ he⟩, ⟨o, k it (by simp) o ho, r⟩, hne⟩
  item := by
    intro X hP hw hK hc i pins s σ H E I hf st hg
    subst hP hw hK
    obtain ⟨⟨old, he⟩, hit, hne, hne2, hne3⟩ := st
    obtain ⟨xs, x, hq, hx⟩ := hg
    obtain ⟨its, rv, p, hz⟩ := I.tuple hq
    obtain ⟨u, hu, ru⟩ := rv.get hx
    have D := Draws.tuple (prog := X.prog) (w := X.w) (A := X.A.in1) (I.ok.hd hc) it a hne2 its.toArray
    have hlt : i < its.toArray.size := by simpa using (List.getElem?_eq_some_iff.mp hu).1
    refine wpAny_mono (turn_en (elts := elts) (kk := kk) (tpos := tpos) (R := fun v H' _ => (Iet X.K a).yld i H v H') D I hf he ⟨hit, p⟩ hlt hne (by simp [hne, hne3]) fun u' h2 hP _ => ?_) (fun r s1 ⟨u, e1, q⟩ => ⟨u, e1, wpAny_mono q (fun _ s2 ⟨v, H', a, b, c, d, f, g⟩ => ⟨v, H', a, b, c, ⟨d, f.1, hne, hne2, hne3⟩, g⟩) fun _ _ z => z⟩) fun _ _ z => z
    have hP : its.toArray[i]? = some u' := hP
    rw [List.getElem?_toArray, hu] at hP
    cases hP
    exact ⟨x, ru, fun T hT => ⟨T, x, rfl, hT, rfl, fun ys hy => by rw [I.tuple_inj hy hq]; exact hx⟩⟩
  done := by
    intro X hP hw hK hc i pins s σ H E I hf st hg
    subst hP hw hK
    obtain ⟨⟨old, he⟩, hit, hne, hne2, hne3⟩ := st
    obtain ⟨xs, hq, hx⟩ := hg
    obtain ⟨its, rv, p, hz⟩ := I.tuple hq
    obtain ⟨f0, f1, f2, f3, f4, f5⟩ := hf it (by simp)
    have hl := rv.length
    have hxn : its.toArray[i]? = none := by simp; omega
    have hT : s.TypeIs (.ref e) "enumerate" := ⟨_, he, rfl⟩
    unfold pyNext
    refine wpAny_bind (wpAny_attempt (wpAny_callSpecial?_slot (name := Str.ofString "__next__") hT F.slot_enumerate_next
      (wpAny_call_entry F.slot_enumerate_next hT F.entry_enumerate_next ?_ (F.args_enumerate_next_1 _))))
    show wpAny _ _ (field (.ref e) 2 >>= _) _ _ _
    refine wpAny_bind (wpAny_field he rfl (x := .ref it) rfl ?_)
    refine wpAny_bind (wpAny_nextOf_tuple_end (I.ok.hd hc) hit p hxn fun h' x' he' hx' => ?_)
    obtain ⟨o, ho, hcl⟩ := hx'
    refine wpAny_bind (wpAny_isInstance (T := "StopIteration") (b := true) ⟨o, ho, hcl⟩ isSubtype_stop ?_)
    exact wpAny_pure ⟨rfl, I.turned (t' := s.toks) (fun b o hb q => he' b o hb q) f0 f1 f3 f4 f5⟩
  self := fun A i s Q E st h => let ⟨⟨_, he⟩, _⟩ := st; wpAny_pyIter_enum he h
def iEnumA (K : PySem.W.Frag) (ta : TA) : TI := fun σ H R => ta σ H fun vs H1 => (∃ a xs, vs = [.ref a] ∧ SqL K H1 a xs ∧ R (Ite K a) H1) ∨ (∃ a xs, vs = [.ref a] ∧ SqT K H1 a xs ∧ R (Iet K a) H1) ∨ ∃ y, vs = [.str y] ∧ R (Ies y) H1
theorem pi_enumA {X : Cx} {e : Expr} {ta : TA} {p pos tpos : Pos} {elts : List Expr} {kk : Nat} (hg : Gl X "enumerate") (hm : X.mg "enumerate" = none) (ha : PA X [e] ta) (hs : starEach [e] X.env = [(false, eval e X.env)] := by rfl) :
    PI X (.Tuple elts kk tpos) (.Call (.Name "enumerate" p) [e] [] pos) (iEnumA X.K ta) := by
  refine ⟨fun pins s σ H R I h => ?_⟩
  refine Call_ (ld_blt I hg hm boot_enumerate (PyProof.Rows.callWith_type1 (thn (ha.run pos pins s σ H _ I h) fun us s1 ⟨vs, H1, I1, r1, q1⟩ => ?_) hs rfl))
  have fresh : ∀ b ∈ [s1.heap.objs.size + 1, s1.heap.objs.size], FpOk X pins H1 b := fun b hb => by
    have e' : b = s1.heap.objs.size + 1 ∨ b = s1.heap.objs.size := by simpa using hb
    have hle : s1.heap.objs.size ≤ b := by
      rcases e' with z | z
      · rw [z]; exact Nat.le_add_right _ _
      · rw [z]; exact Nat.le_refl _
    exact I1.fpOk hle (I1.hok.fresh hle)
  rcases q1 with ⟨a, xs, ex, hq, q⟩ | ⟨a, xs, ex, hq, q⟩ | ⟨y, ex, q⟩
  · subst ex
    cases r1 with
    | cons r rr =>
      cases rr
      cases r
      obtain ⟨its, rv, p', hz⟩ := I1.list hq
      refine call_enum_any (begins_list a its.toArray) p'.isList fun h' he hit hk => wpAny_pyIter_enum he ?_
      have I2 : Inv X pins σ H1 { s1 with heap := h' } := I1.kept (t' := s1.toks) hk
      exact ⟨s1.heap.objs.size + 1, [s1.heap.objs.size + 1, s1.heap.objs.size], _, _, H1, rfl, I2, turn_enum a (s1.heap.objs.size + 1) s1.heap.objs.size, ⟨⟨.none, he⟩, ⟨_, hit, rfl, rfl⟩, Nat.succ_ne_self _⟩, fresh, q⟩
  · subst ex
    cases r1 with
    | cons r rr =>
      cases rr
      cases r
      obtain ⟨its, rv, p', hz⟩ := I1.tuple hq
      have hal : a < s1.heap.objs.size := by obtain ⟨o, ho, _⟩ := p'; exact Heap.lt_size ho
      refine call_enum_any (begins_tuple a its.toArray) (show s1.heap.IsTuple a its.toArray from p') fun h' he hit hk => wpAny_pyIter_enum he ?_
      have I2 : Inv X pins σ H1 { s1 with heap := h' } := I1.kept (t' := s1.toks) hk
      exact ⟨s1.heap.objs.size + 1, [s1.heap.objs.size + 1, s1.heap.objs.size], _, _, H1, rfl, I2, turn_enT a (s1.heap.objs.size + 1) s1.heap.objs.size, ⟨⟨.none, he⟩, ⟨_, hit, rfl, rfl⟩, Nat.succ_ne_self _, Nat.ne_of_lt hal, Nat.ne_of_gt (Nat.lt_succ_of_lt hal)⟩, fresh, q⟩
  · subst ex
    cases r1 with
    | cons r rr =>
      cases rr
      obtain ⟨t, rfl⟩ := r
      refine call_enum_any (begins_text y t) trivial fun h' he hit hk => wpAny_pyIter_enum he ?_
      have I2 : Inv X pins σ H1 { s1 with heap := h' } := I1.kept (t' := s1.toks) hk
      exact ⟨s1.heap.objs.size + 1, [s1.heap.objs.size + 1, s1.heap.objs.size], _, _, H1, rfl, I2, turn_enS (s1.heap.objs.size + 1) s1.heap.objs.size y t, ⟨⟨.none, he⟩, ⟨_, hit, rfl, rfl⟩, Nat.succ_ne_self _⟩, fresh, q⟩
end PuE
namespace Pu
open PySem L2 PySem.Spec PyProof.Rows
section
variable {Γ Γ' : Gm} {κ κ' : Ka} {H H' : Hp} {env env' : En} {σ : Sl} {v : V} {st : Sto} {Y : Fam} {a b e o : Expr} {es : List Expr} {ta tb te to ti : PTE} {pos : Pos}
def enumF : Nat → List D → List D
  | _, [] => []
  | i, d :: ds => .tup [.int i, d] :: enumF (i + 1) ds
theorem enumF_get : ∀ (ds : List D) (k i : Nat), (enumF k ds)[i]? = ds[i]?.map fun d => .tup [.int ((k + i : Nat) : Int), d]
  | [], _, _ => by simp [enumF]
  | d :: ds, k, 0 => by simp [enumF]
  | d :: ds, k, i + 1 => by
    have e1 : k + 1 + i = k + (i + 1) := by omega
    rw [enumF, List.getElem?_cons_succ, List.getElem?_cons_succ, enumF_get ds (k + 1) i, e1]
theorem enumF_length : ∀ (ds : List D) (k : Nat), (enumF k ds).length = ds.length
  | [], _ => rfl
  | d :: ds, k => by simp [enumF, enumF_length ds]
theorem pair_new {T : Addr} {x : V} {d : D} {i : Nat} (I : Rl Γ κ env σ H) (h : H T = none) (r : Rep Γ.K Γ.cls κ H x d) :
    ∃ κ', Ext κ H κ' (upd H T (.tup [.int (i : Nat), x])) ∧ Rl Γ κ' env σ (upd H T (.tup [.int (i : Nat), x])) ∧ Rep Γ.K Γ.cls κ' (upd H T (.tup [.int (i : Nat), x])) (.ref T) (.tup [.int (i : Nat), d]) :=
  ⟨_, new_tup (by simp [ordL, isPr]) I h (by show 2 ≤ sizeLine; decide) (.cons (.int _) (.cons r .nil))⟩
theorem src_enL {a : Addr} {vs : List V} {ds : List D} (hk : κ a = some .frz) (ha : H a = some (.lst vs)) (r : RepL Γ.K Γ.cls κ H vs ds) : Src Γ.K Γ.cls κ H (Ite Γ.K a) (enumF 0 ds) := by
  intro Γ2 hK hc
  rw [← hK, ← hc] at r
  rw [← hK]
  intro σ κ1 H1 env i I x
  have h1 : SqL Γ2.K H1 a vs := SqL.of ((x.2 a hk).trans ha)
  refine ⟨fun d e => ?_, fun e => ⟨vs, h1, by rw [r.length, ← e, enumF_length]; exact Nat.le_refl _⟩⟩
  rw [enumF_get] at e
  cases q : ds[i]? with
  | none => rw [q] at e; cases e
  | some y =>
    rw [q] at e
    cases e
    obtain ⟨v, e1, r1⟩ := r.get q
    refine ⟨⟨vs, v, h1, e1⟩, fun w H' yy => ?_⟩
    obtain ⟨T, z, rfl, hT, rfl, hz⟩ := yy
    have hz := hz vs h1
    rw [e1] at hz
    cases hz
    rw [Nat.zero_add]
    exact pair_new I hT (r1.mono x)
theorem src_enT {a : Addr} {vs : List V} {ds : List D} (h : Rep Γ.K Γ.cls κ H (.ref a) (.tup ds)) : Src Γ.K Γ.cls κ H (PuE.Iet Γ.K a) (enumF 0 ds) := by
  intro Γ2 hK hc
  rw [← hK, ← hc] at h
  rw [← hK]
  intro σ κ1 H1 env i I x
  obtain ⟨b, vs, e0, h1, _, r⟩ := (h.mono x).sqT
  cases e0
  refine ⟨fun d e => ?_, fun e => ⟨vs, h1, by rw [r.length, ← e, enumF_length]; exact Nat.le_refl _⟩⟩
  rw [enumF_get] at e
  cases q : ds[i]? with
  | none => rw [q] at e; cases e
  | some y =>
    rw [q] at e
    cases e
    obtain ⟨v, e1, r1⟩ := r.get q
    refine ⟨⟨vs, v, h1, e1⟩, fun w H' yy => ?_⟩
    obtain ⟨T, z, rfl, hT, rfl, hz⟩ := yy
    have hz := hz vs h1
    rw [e1] at hz
    cases hz
    rw [Nat.zero_add]
    exact pair_new I hT r1
theorem src_enS {K : PySem.W.Frag} {cl : Cl} {s : List Nat} (hs : SOk s) : Src K cl κ H (PuE.Ies ⟨s.toArray⟩) (enumF 0 (signs s)) := by
  intro Γ2 hK hc σ κ1 H1 env i I x
  have hl : (signs s).length = s.length := signs_length s
  refine ⟨fun d e => ?_, fun e => ?_⟩
  · rw [enumF_get] at e
    unfold signs at e
    rw [List.getElem?_map] at e
    cases q : s[i]? with
    | none => rw [q] at e; cases e
    | some c =>
      rw [q] at e
      cases e
      refine ⟨by show i < (⟨s.toArray⟩ : Str).cps.size; simpa using (List.getElem?_eq_some_iff.mp q).1, fun v H' y => ?_⟩
      obtain ⟨T, c', rfl, hT, rfl, e1⟩ := y
      have e1 : s.toArray[i]? = some c' := e1
      rw [List.getElem?_toArray, q] at e1
      cases e1
      rw [Nat.zero_add]
      exact pair_new I hT (.str _ (hs.one (List.mem_of_getElem? q)))
  · show (⟨s.toArray⟩ : Str).cps.size ≤ i
    rw [← e, enumF_length, hl]
    simp
def D.walkE : D → Option (List D)
  | .lst ds => some ds
  | .tup ds => some ds
  | .str s => some (signs s)
  | _ => none
def iEnumP (t : PTR) : PTI := fun x e Q => t x e fun rs e1 => match rs with
  | [r] => fz r e1 fun d e2 => match d.walkE with
    | some ds => Q (enumF 0 ds) e2
    | none => False
  | _ => False
theorem vi_enum {elts : List Expr} {kk : Nat} {tpos : Pos} {p : Pos} {t : PTR} (hm : ∀ i, (Y.X i).mg "enumerate" = none) (ha : VR Y [e] t) (hg : ∀ i, Gl (Y.X i) "enumerate" := by intro _; rfl) (hs : ∀ X : Cx, starEach [e] X.env = [(false, eval e X.env)] := by intro _; rfl) :
    VI Y (.Tuple elts kk tpos) (.Call (.Name "enumerate" p) [e] [] pos) (iEnumP t) := by
  obtain ⟨ra, pa, fa⟩ := ha.ex
  refine ⟨⟨fun E => PuE.iEnumA Y.K (ra E), fun i => by have := PuE.pi_enumA (elts := elts) (kk := kk) (tpos := tpos) (p := p) (pos := pos) (hg i) (hm i) (pa i) (hs _); rw [Y.hK i] at this; exact this, fun Γ σ κ H env Q Q' hK I q k => ?_⟩⟩
  refine fa Γ σ κ H env _ _ hK I q fun vs κ1 H1 rs e1 x1 I1 h1 q1 => ?_
  match rs, vs, h1, q1 with
  | [r], [v], .cons h1 .nil, q1 =>
    refine fz_ok I1 h1.rel q1 fun κ2 d e2 x2 I2 h2 q2 => ?_
    rw [← hK.k]
    cases d with
    | lst ds =>
      cases h2 with
      | lst g1 g2 g3 g4 => exact .inl ⟨_, _, rfl, SqL.of g2, k _ κ2 H1 _ e2 (x1.trans x2) I2 (src_enL g1 g2 g4) q2⟩
    | tup ds =>
      obtain ⟨a, vs, rfl, g1, _, _⟩ := h2.sqT
      exact .inr (.inl ⟨a, vs, rfl, g1, k _ κ2 H1 _ e2 (x1.trans x2) I2 (src_enT (vs := vs) h2) q2⟩)
    | str s =>
      obtain ⟨rfl, hs⟩ := h2.strE
      exact .inr (.inr ⟨_, rfl, k _ κ2 H1 _ e2 (x1.trans x2) I2 (src_enS hs) q2⟩)
    | _ => exact False.elim q2
  | [], _, _, q1 => exact False.elim q1
  | _ :: _ :: _, _, _, q1 => exact False.elim q1
end
end Pu
set_option maxRecDepth 100000
set_option maxHeartbeats 4000000
namespace Pu
open PySem L2
section
variable {K : PySem.W.Frag} {cl : Cl} {Γ Γ' : Gm} {κ κ' : Ka} {H H' : Hp} {env env' : En} {σ : Sl} {v : V} {st : Sto} {Y : Fam} {a b e o i : Expr} {es : List Expr} {ta tb te to ti : PTE} {pos : Pos}
def keyD : D → Option Key
  | .int i => some (.inl i)
  | .str s => some (.inr ⟨s.toArray⟩)
  | _ => none
theorem keyD_rep {d : D} {k : Key} (h : Rep K cl κ H v d) (e : keyD d = some k) : v = kV k := by
  cases d with
  | int i => cases e; cases h; rfl
  | str s => cases e; obtain ⟨rfl, _⟩ := h.strE; rfl
  | _ => cases e
def getK (kvs : List (Key × D)) (k : Key) : Option D := (kvs.find? fun kv => decide (kv.1 = k)).map (·.2)
def setK (kvs : List (Key × D)) (k : Key) (d : D) : List (Key × D) :=
  if (kvs.any fun kv => decide (kv.1 = k)) = true then kvs.map (fun kv => if kv.1 = k then (kv.1, d) else kv) else kvs ++ [(k, d)]
theorem PR.any : ∀ {ds : List (Key × D)} {vs : List (Key × V)} (k : Key), PR K cl κ H vs ds → (vs.any fun kv => decide (kv.1 = k)) = ds.any fun kv => decide (kv.1 = k)
  | [], _, _, h => by cases h; rfl
  | d :: ds, _, k, h => by cases h with | cons h1 h2 => rw [List.any_cons, List.any_cons, PR.any k h2]
theorem PR.appendP : ∀ {ds es : List (Key × D)} {vs ws : List (Key × V)}, PR K cl κ H vs ds → PR K cl κ H ws es → PR K cl κ H (vs ++ ws) (ds ++ es)
  | [], _, _, _, h, g => by cases h; exact g
  | _ :: _, _, _, _, h, g => by cases h with | cons h1 h2 => exact .cons h1 (PR.appendP h2 g)
theorem PR.repl {v : V} {d : D} (r : Rep K cl κ H v d) (k : Key) : ∀ {ds : List (Key × D)} {vs : List (Key × V)}, PR K cl κ H vs ds → PR K cl κ H (vs.map fun kv => if kv.1 = k then (kv.1, v) else kv) (ds.map fun kv => if kv.1 = k then (kv.1, d) else kv)
  | [], _, h => by cases h; exact .nil
  | (j, y) :: ds, _, h => by
    cases h with
    | cons h1 h2 =>
      rw [List.map_cons, List.map_cons]
      by_cases e : j = k
      · rw [if_pos e, if_pos e]; exact .cons r (PR.repl r k h2)
      · rw [if_neg e, if_neg e]; exact .cons h1 (PR.repl r k h2)
theorem PR.put {v : V} {d : D} (r : Rep K cl κ H v d) (k : Key) {ds : List (Key × D)} {vs : List (Key × V)} (h : PR K cl κ H vs ds) : PR K cl κ H (putK vs k v) (setK ds k d) := by
  unfold putK setK
  rw [PR.any k h]
  by_cases e : (ds.any fun kv => decide (kv.1 = k)) = true
  · rw [if_pos e, if_pos e]; exact PR.repl r k h
  · rw [if_neg e, if_neg e]; exact PR.appendP h (.cons r .nil)
theorem PR.find (k : Key) : ∀ {ds : List (Key × D)} {vs : List (Key × V)}, PR K cl κ H vs ds → (getK ds k = none ∧ valV vs k = none) ∨ ∃ d v, getK ds k = some d ∧ valV vs k = some v ∧ Rep K cl κ H v d
  | [], _, h => by cases h; exact .inl ⟨rfl, rfl⟩
  | (j, y) :: ds, _, h => by
    cases h with
    | @cons _ w _ _ _ h1 h2 =>
      by_cases e : j = k
      · refine .inr ⟨y, w, ?_, valV_pos e, h1⟩
        unfold getK
        rw [List.find?_cons_of_pos (by simpa using e)]
        rfl
      · have e1 : getK ((j, y) :: ds) k = getK ds k := by
          unfold getK
          rw [List.find?_cons_of_neg (by simpa using e)]
        rw [e1, valV_neg e]
        exact PR.find k h2
def kget : R → En → Option (List (Key × D))
  | .nam i, e => match e.sl[i]? with
    | some (.dK ds) => some ds
    | _ => none
  | .d (.ref k), e => match e.st[k]? with
    | some (.dK ds) => some ds
    | _ => none
  | _, _ => none
def kset : R → En → List (Key × D) → En
  | .nam i, e, ds => e.setC i (.dK ds)
  | .d (.ref k), e, ds => ⟨e.sl, e.st.set k (.dK ds)⟩
  | _, e, _ => e
theorem dct_ok {r : R} {ds : List (Key × D)} (I : Rl Γ κ env σ H) (h : HeldR Γ κ H σ v r) (e : kget r env = some ds) : ∃ a vs, v = .ref a ∧ H a = some (.dK vs) ∧ PR Γ.K Γ.cls κ H vs ds ∧
    ∀ vs' ds', PR Γ.K Γ.cls κ H vs' ds' → Ext κ H κ (upd H a (.dK vs')) ∧ Rl Γ κ (kset r env ds') σ (upd H a (.dK vs')) := by
  cases r with
  | nam i =>
    have h : σ[i]? = some (some v) := h
    unfold kget at e
    simp only at e
    cases q : env.sl[i]? with
    | none => rw [q] at e; cases e
    | some c =>
      have s := I.get q
      rw [q] at e
      cases c with
      | dK ds' =>
        cases e
        obtain ⟨a, e1, k1, h0, vs, h2, h4⟩ := s
        rw [h] at e1
        cases e1
        refine ⟨a, vs, rfl, h2, h4, fun vs' ds' r' => ?_⟩
        have x : Ext κ H κ (L2.upd H a (.dK vs')) := Ext.upd k1
        have hi : i < env.sl.length := (List.getElem?_eq_some_iff.mp q).1
        have own_i : OwnS env σ i a := ⟨h, _, q, rfl⟩
        refine ⟨x, ⟨by rw [I.len]; simp [kset, En.setC], fun j c ec => ?_, fun j l b o1 o2 => ?_, I.gh.upd k1 h0⟩⟩
        · have ec : (env.sl.set i (C.dK ds'))[j]? = some c := ec
          by_cases hj : j = i
          · subst hj
            rw [List.getElem?_set_self hi] at ec
            cases ec
            exact ⟨a, h, k1, h0, vs', upd_same, r'.mono x⟩
          · rw [List.getElem?_set_ne (Ne.symm hj)] at ec
            have s := I.get ec
            cases hc : c.isOwn with
            | true =>
              obtain ⟨b, e1, hb⟩ := s.own hc
              have hba : b ≠ a := fun z => hj (I.dist j i a ⟨z ▸ e1, c, ec, hc⟩ own_i)
              exact .mk e1 (hb.ext x hb.facts.1 (upd_ne hba))
            | false =>
              cases c with
              | un => trivial
              | d d => obtain ⟨v, e1, r⟩ := s; exact ⟨v, e1, r.mono x⟩
              | _ => cases hc
        · have old : ∀ m, OwnS (env.setC i (.dK ds')) σ m b → OwnS env σ m b := fun m ⟨z1, c, z2, z3⟩ => by
            have z2 : (env.sl.set i (C.dK ds'))[m]? = some c := z2
            by_cases hm : m = i
            · subst hm
              exact ⟨z1, _, q, rfl⟩
            · rw [List.getElem?_set_ne (Ne.symm hm)] at z2
              exact ⟨z1, c, z2, z3⟩
          exact I.dist j l b (old j o1) (old l o2)
      | _ => cases e
  | d d =>
    cases d with
    | ref k =>
      unfold kget at e
      simp only at e
      cases q : env.st[k]? with
      | none => rw [q] at e; cases e
      | some so =>
        rw [q] at e
        cases so with
        | dK ds' =>
          cases e
          cases h with
          | @ref a _ hk =>
            obtain ⟨so, g1, g2⟩ := I.gh.obj a k hk
            rw [q] at g1
            cases g1
            obtain ⟨vs, h2, h4⟩ := g2
            refine ⟨a, vs, rfl, h2, h4, fun vs' ds' r' => ?_⟩
            have x : Ext κ H κ (L2.upd H a (.dK vs')) := ⟨fun _ _ e => e, fun b e => upd_ne fun z => by rw [z, hk] at e; cases e⟩
            refine ⟨x, I.step x (fun i b hb => ?_) (I.gh.upd_obj (so := .dK ds') hk (fun H' e x' => ⟨vs', e, r'.mono x'⟩) (List.getElem?_eq_some_iff.mp q).1)⟩
            obtain ⟨c, _, hc⟩ := I.ownS hb
            exact ⟨hc.facts.1, upd_ne fun z => by have := hc.facts.1; rw [z, hk] at this; cases this⟩
        | _ => cases e
    | _ => cases e
  | _ => cases e
/-- a dict that is read: one's own, an object's, or data -/
def kgetR : R → En → Option (List (Key × D))
  | .d (.dck ks ds), _ => some (ks.zip ds)
  | r, e => kget r e
theorem dctR_ok {r : R} {ds : List (Key × D)} (I : Rl Γ κ env σ H) (h : HeldR Γ κ H σ v r) (e : kgetR r env = some ds) : ∃ a vs, v = .ref a ∧ H a = some (.dK vs) ∧ PR Γ.K Γ.cls κ H vs ds := by
  have key : kget r env = some ds → ∃ a vs, v = .ref a ∧ H a = some (.dK vs) ∧ PR Γ.K Γ.cls κ H vs ds := fun e => by
    obtain ⟨a, vs, h1, h2, h3, _⟩ := dct_ok I h e
    exact ⟨a, vs, h1, h2, h3⟩
  cases r with
  | d d =>
    cases d with
    | dck ks ds' =>
      cases e
      cases h with
      | dck h1 h2 h3 h4 => exact ⟨_, _, rfl, h2, PR.zipKV h3 h4⟩
    | _ => exact key e
  | _ => exact key e
/-- {} -/
def tDict0 : PTE := fun _ e Q => Q (.dK []) e
/-- d[k] -/
def tDG (to ti : PTE) : PTE := fun x e Q => to x e fun r e1 => hold r e1 fun r e1 => ti x e1 fun ri e2 => match kgetR r e2 with
  | some kvs => match rv ri e2 with
    | some kd => match keyD kd with
      | some k => match getK kvs k with
        | some d => Q (.d d) e2
        | none => False
      | none => False
    | none => False
  | none => False
theorem ve_dget (hu : Hu Y) (ho : VE Y o to) (hi : VE Y i ti) (hs : NoSl i := by exact fun _ _ => rfl) : VE Y (.Subscript o i pos) (tDG to ti) := by
  obtain ⟨ro, po, fo⟩ := ho.ex
  obtain ⟨ri, pi, fi⟩ := hi.ex
  refine ⟨⟨fun E => tDGet (ro E) (ri E), fun j => pe_dget (by have := hu j; omega) (po j) (pi j) hs, fun Γ σ κ H env Q Q' hK I q k => ?_⟩⟩
  refine fo Γ σ κ H env _ _ hK I q fun v κ1 H1 r1 e1 x1 I1 h1 q1 => ?_
  refine hold_ok I1 h1 q1 fun κ2 r2 x2 I2 h2 q2 => ?_
  refine fi Γ σ κ2 H1 e1 _ _ hK I2 q2 fun iv κ3 H3 r3 e3 x3 I3 h3 q3 => ?_
  cases e1' : kgetR r2 e3 with
  | none => rw [e1'] at q3; exact q3.elim
  | some kvs =>
    rw [e1'] at q3
    cases e2' : rv r3 e3 with
    | none => rw [e2'] at q3; exact q3.elim
    | some kd =>
      rw [e2'] at q3
      cases e3' : keyD kd with
      | none => simp only [e3'] at q3
      | some kk =>
        simp only [e3'] at q3
        obtain ⟨a, vs, rfl, g1, g2⟩ := dctR_ok I3 (h2.ext x3) e1'
        have ek := keyD_rep (K := Γ.K) (cl := Γ.cls) (κ := κ3) (H := H3) (v := iv) (d := kd) (by
          have := rv_ok I3 h3 e2'
          cases kd with
          | lst _ => cases e3'
          | _ => exact this) e3'
        subst ek
        rcases PR.find kk g2 with ⟨z1, z2⟩ | ⟨d, v, z1, z2, z3⟩
        · rw [z1] at q3; exact q3.elim
        · rw [z1] at q3
          exact ⟨a, v, rfl, z2 ▸ DGet.k g1, k v κ3 H3 (.d d) e3 ((x1.trans x2).trans x3) I3 z3 q3⟩
/-- k in d -/
def tDI (neg : Bool) (ti to : PTE) : PTE := fun x e Q => ti x e fun ri e1 => hold ri e1 fun ri e1 => to x e1 fun r e2 => match kgetR r e2 with
  | some kvs => match rv ri e2 with
    | some kd => match keyD kd with
      | some k => Q (.d (.bl (if neg then !(getK kvs k).isSome else (getK kvs k).isSome))) e2
      | none => False
    | none => False
  | none => False
/-- d[k] = v -/
def sDPt (te to ti : PTE) : PTS := fun x P e => te x e fun r0 e1 => fz r0 e1 fun dv e2 => to x e2 fun ro e3 => hold ro e3 fun ro e3 => ti x e3 fun ri e4 => match kget ro e4 with
  | some kvs => match rv ri e4 with
    | some kd => match keyD kd with
      | some k => kvs.length < sizeLine ∧ P.nx (kset ro e4 (setK kvs k dv))
      | none => False
    | none => False
  | none => False
end
end Pu
set_option maxRecDepth 100000
set_option maxHeartbeats 4000000
namespace PuE
open PySem PySem.Spec PyProof.Rows L2 HT
end PuE
namespace Pu
open PySem L2
section
variable {Γ Γ' : Gm} {κ κ' : Ka} {H H' : Hp} {env env' : En} {σ : Sl} {v : V} {st : Sto} {Y : Fam} {a b e o : Expr} {es : List Expr} {ta tb te to ti : PTE} {pos : Pos}
def pBack (d : D) (Q : R → Prop) : Prop := match d with
  | .lst ds => Q (.own ds.reverse)
  | .tup ds => Q (.d (.tup ds.reverse))
  | .str s => Q (.d (.str s.reverse))
  | _ => False
/-- a statement that is never reached -/
def sNever : PTS := fun _ _ _ => False
theorem vs_never {s : Stmt} : VS Y s sNever := ⟨⟨fun _ _ _ _ => False, fun _ => ⟨fun _ _ _ _ _ _ h => h.elim⟩, fun _ _ _ _ _ _ _ _ _ q _ => q⟩⟩
end
end Pu
set_option maxRecDepth 100000
set_option maxHeartbeats 4000000
namespace Pu
open PySem L2
section
variable {Γ Γ' : Gm} {κ κ' : Ka} {H H' : Hp} {env env' : En} {σ : Sl} {v : V} {st : Sto} {Y : Fam} {a b e o i o2 i2 : Expr} {es : List Expr} {ta tb te to ti to2 ti2 : PTE} {pos : Pos}
def subA (to ti : PTE) (dv : D) (x : PX) (e : En) (Q : En → Prop) : Prop := to x e fun ro e3 => hold ro e3 fun ro e3 => ti x e3 fun ri e4 => match rv ri e4 with
  | some (.int i) => setAt ro dv i e4 Q
  | _ => False
def sSwIx (te to ti to2 ti2 : PTE) : PTS := fun x P e => te x e fun r0 e1 => fz r0 e1 fun dv e2 => match dv with
  | .tup [d1, d2] => subA to ti d1 x e2 fun e3 => subA to2 ti2 d2 x e3 P.nx
  | _ => False
end
end Pu
set_option maxRecDepth 100000
set_option maxHeartbeats 4000000
namespace PuE
open PySem PySem.Spec PyProof.Rows L2 SrtO
abbrev Itm := Int ⊕ List Nat
abbrev ltN (a b : List Itm) : Bool := (listOrd itemOrd).blt a b
/-- a tuple of such items in the heap -/
def IsTupS (h : Heap) (shape : Nat → Bool) (v : Value) (l : List Itm) : Prop := ∃ a o xs n, v = .ref a ∧ h.get? a = some o ∧ o.cls = .type "tuple" ∧ o.data = .seq xs n ∧ tupItems shape 0 xs.toList = some l ∧ l ≠ []
theorem IsTupS.keeps {h h' : Heap} {shape : Nat → Bool} {v : Value} {l : List Itm} (x : IsTupS h shape v l) (k : ∀ b o, h.get? b = some o → o.cls = .type "tuple" → h'.get? b = some o) : IsTupS h' shape v l := by
  obtain ⟨a, o, xs, n, e, ho, hc, r⟩ := x
  exact ⟨a, o, xs, n, e, k a o ho hc, hc, r⟩
def isS : Itm → Bool
  | .inl _ => false
  | .inr _ => true
end PuE
namespace Pu
open PySem L2 PySem.Spec PyProof.Rows PuE
def itD : Itm → D
  | .inl i => .int i
  | .inr l => .str l
def itsD : List D → Option (List Itm)
  | [] => some []
  | .int i :: ds => (itsD ds).map (Sum.inl i :: ·)
  | .str l :: ds => (itsD ds).map (Sum.inr l :: ·)
  | _ => none
def tsD : List D → Option (List (List Itm))
  | [] => some []
  | .tup xs :: ds => match itsD xs, tsD ds with
    | some l, some r => some (l :: r)
    | _, _ => none
  | _ => none
def trD (l : List Itm) : D := .tup (l.map itD)
/-- sorted(list or tuple of such tuples) -/
def pSortN : List D → (R → Prop) → Prop
  | [d], Q => match d.seqs with
    | some ds => match tsD ds with
      | some ls => ∃ sh : List Bool, sh ≠ [] ∧ (∀ l ∈ ls, l.map isS = sh) ∧ ∀ qs : List (List Itm), qs.Perm ls → qs.Pairwise (fun x y => ltN y x = false) → Q (.own (qs.map trD))
      | none => False
    | none => False
  | _, _ => False
end Pu
set_option maxRecDepth 100000
set_option maxHeartbeats 4000000
namespace PuE
open PySem PySem.Spec PyProof.Rows L2
end PuE
set_option maxRecDepth 100000
set_option maxHeartbeats 4000000
namespace Pu
open PySem L2 PuE
section
variable {α : Type} [DecidableEq α] {K : PySem.W.Frag} {cl : Cl} {κ : Ka} {H : Hp}
def getA (kvs : List (α × D)) (k : α) : Option D := (kvs.find? fun kv => decide (kv.1 = k)).map (·.2)
def setA (kvs : List (α × D)) (k : α) (d : D) : List (α × D) :=
  if (kvs.any fun kv => decide (kv.1 = k)) = true then kvs.map (fun kv => if kv.1 = k then (kv.1, d) else kv) else kvs ++ [(k, d)]
def mergeA (kvs more : List (α × D)) : List (α × D) := more.foldl (fun acc kv => setA acc kv.1 kv.2) kvs
end
section
variable {K : PySem.W.Frag} {cl : Cl} {Γ Γ' : Gm} {κ κ' : Ka} {H H' : Hp} {env env' : En} {σ : Sl} {v : V} {st : Sto} {Y : Fam} {a b c e o i : Expr} {es : List Expr} {ta tb tc te to ti : PTE} {pos : Pos}
def keyL : List D → Option (List Key)
  | [] => some []
  | d :: ds => match keyD d with
    | some k => match keyL ds with
      | some ks => some (k :: ks)
      | none => none
    | none => none
/-- a tuple's key -/
def tupK : D → Option (List Key)
  | .tup ds => keyL ds
  | _ => none
def tget : R → En → Option (List (List Key × D))
  | .nam i, e => match e.sl[i]? with
    | some (.dT ds) => some ds
    | _ => none
  | .d (.ref k), e => match e.st[k]? with
    | some (.dT ds) => some ds
    | _ => none
  | _, _ => none
def tset : R → En → List (List Key × D) → En
  | .nam i, e, ds => e.setC i (.dT ds)
  | .d (.ref k), e, ds => ⟨e.sl, e.st.set k (.dT ds)⟩
  | _, e, _ => e
def tgetR : R → En → Option (List (List Key × D))
  | .d (.dct ks ds), _ => some (ks.zip ds)
  | r, e => tget r e
/-- {}, to be filled by tuples -/
def tDictT0 : PTE := fun _ e Q => Q (.dT []) e
/-- d[k], k a tuple -/
def tDGT (to ti : PTE) : PTE := fun x e Q => to x e fun r e1 => hold r e1 fun r e1 => ti x e1 fun ri e2 => match tgetR r e2 with
  | some kvs => match rv ri e2 with
    | some kd => match tupK kd with
      | some k => match getA kvs k with
        | some d => Q (.d d) e2
        | none => False
      | none => False
    | none => False
  | none => False
/-- d[k] = v, k a tuple -/
def sDPtT (te to ti : PTE) : PTS := fun x P e => te x e fun r0 e1 => fz r0 e1 fun dv e2 => to x e2 fun ro e3 => hold ro e3 fun ro e3 => ti x e3 fun ri e4 => match tget ro e4 with
  | some kvs => match rv ri e4 with
    | some kd => match tupK kd with
      | some k => kvs.length < sizeLine ∧ P.nx (tset ro e4 (setA kvs k dv))
      | none => False
    | none => False
  | none => False
def tCallT (p : List (List Key × D) → (R → Prop) → Prop) (t : PTR) : PTE := fun x e Q => t x e fun rs e1 => match rs with
  | [r] => match tgetR r e1 with
    | some kvs => p kvs (fun r => Q r e1)
    | none => False
  | _ => False
/-- len(d) -/
def pLenT (kvs : List (List Key × D)) (Q : R → Prop) : Prop := Q (.d (.int kvs.length))
/-- list(d) -/
def invK : Key → D
  | .inl i => .int i
  | .inr s => .str s.cps.toList
def isIK : Key → Bool
  | .inl _ => true
  | .inr _ => false
def pListT (kvs : List (List Key × D)) (Q : R → Prop) : Prop := kvs.length ≤ sizeLine ∧ (∀ kv ∈ kvs, kv.1.length ≤ sizeLine ∧ kv.1.all isIK = true) ∧ Q (.own (kvs.map fun kv => .tup (kv.1.map invK)))
theorem IsKeys.len {H : Hp} {vs : List (List Key × V)} {bs : List Addr} (h : IsKeys H vs bs) : vs.length = bs.length := Paired.length h
def pairsT : List D → Option (List (List Key × D))
  | [] => some []
  | .tup [kd, v] :: r => match tupK kd with
    | some k => match pairsT r with
      | some kvs => some ((k, v) :: kvs)
      | none => none
    | none => none
  | _ => none
def pairsK : List D → Option (List (Key × D))
  | [] => some []
  | .tup [kd, v] :: r => match keyD kd with
    | some k => match pairsK r with
      | some kvs => some ((k, v) :: kvs)
      | none => none
    | none => none
  | _ => none
def pDictT : List D → (R → Prop) → Prop
  | [.lst ds], Q => match pairsT ds with
    | some kvs => Q (.dT (mergeA [] kvs))
    | none => False
  | _, _ => False
def pDictK : List D → (R → Prop) → Prop
  | [.lst ds], Q => match pairsK ds with
    | some kvs => Q (.dK (mergeA [] kvs))
    | none => False
  | _, _ => False
def tChn (g g' : Int → Int → Bool) (ta tb tc : PTE) : PTE := fun x e Q => ta x e fun r0 e1 => match rv r0 e1 with
  | some (.int i) => tb x e1 fun r1 e2 => match rv r1 e2 with
    | some (.int j) => if g i j = true then tc x e2 fun r2 e3 => match rv r2 e3 with
        | some (.int k) => Q (.d (.bl (g' j k))) e3
        | _ => False
      else Q (.d (.bl false)) e2
    | _ => False
  | _ => False
def pMMI (f : Int → List Int → Int) : List D → (R → Prop) → Prop
  | [d], Q => match intL d.items with
    | some (x :: r) => Q (.d (.int (f x r)))
    | _ => False
  | _, _ => False
end
end Pu
set_option maxRecDepth 100000
set_option maxHeartbeats 4000000
namespace PuE
open PySem PySem.Spec PyProof.Rows SS
/-- how many unlike ones of the first so many -/
def unl (xs : List Str) : Nat → Nat
  | 0 => 0
  | i + 1 => if (xs.take i).any (· == xs.getD i Str.empty) then unl xs i else unl xs i + 1
end PuE
namespace PuE
open PySem PySem.Spec PyProof.Rows L2
end PuE
namespace Pu
open PySem L2 PuE
section
variable {Γ Γ' : Gm} {κ κ' : Ka} {H H' : Hp} {env env' : En} {σ : Sl} {v : V} {st : Sto} {Y : Fam} {a b e : Expr} {es : List Expr} {ta tb te : PTE} {pos : Pos}
/-- how many unlike texts -/
def unlT (ls : List (List Nat)) : Nat := unl (ls.map fun l => (⟨l.toArray⟩ : Str)) ls.length
def pLenS (d : D) (Q : R → Prop) : Prop := match d with
  | .lst ds => match strL ds with
    | some ls => ls.length < 64 ∧ Q (.d (.int (unlT ls)))
    | none => False
  | _ => False
end
end Pu
set_option maxRecDepth 100000
set_option maxHeartbeats 4000000
namespace PuE
open PySem PySem.Spec PyProof.Rows L2
end PuE
namespace Pu
open PySem L2 PuE
section
variable {Γ Γ' : Gm} {κ κ' : Ka} {H H' : Hp} {env env' : En} {σ : Sl} {v : V} {st : Sto} {Y : Fam} {a b c d e : Expr} {es : List Expr} {ta tb tc td te : PTE} {pos : Pos}
def tChn3 (g1 g2 g3 : Int → Int → Bool) (ta tb tc td : PTE) : PTE := fun x e Q => ta x e fun r0 e1 => match rv r0 e1 with
  | some (.int i) => tb x e1 fun r1 e2 => match rv r1 e2 with
    | some (.int j) => if g1 i j = true then tc x e2 fun r2 e3 => match rv r2 e3 with
        | some (.int k) => if g2 j k = true then td x e3 fun r3 e4 => match rv r3 e4 with
            | some (.int l) => Q (.d (.bl (g3 k l))) e4
            | _ => False
          else Q (.d (.bl false)) e3
        | _ => False
      else Q (.d (.bl false)) e2
    | _ => False
  | _ => False
end
end Pu
set_option maxRecDepth 100000
set_option maxHeartbeats 4000000
namespace Pu
open PySem L2
section
variable {Γ Γ' : Gm} {κ κ' : Ka} {H H' : Hp} {env env' : En} {σ : Sl} {v : V} {st : Sto} {Y : Fam} {a b c d e : Expr} {es : List Expr} {ta tb tc td te : PTE} {pos : Pos}
def pLtT (d e : D) (Q : R → Prop) : Prop := match d, e with
  | .tup xs, .tup ys => match intL xs, intL ys with
    | some ns, some ms => Q (.d (.bl (HT.lexLt ns ms)))
    | _, _ => False
  | _, _ => False
end
end Pu
set_option maxRecDepth 100000
set_option maxHeartbeats 4000000
namespace Pu
open PySem PySem.Spec PyProof.Rows L2 PuE
mutual
/-- the value v is the key k -/
inductive NV (H : Hp) : NestedKey → V → Prop
  | int (i : Int) : NV H (.num i) (.int i)
  | text (x : Str) : NV H (.text x) (.str x)
  | tup {a : Addr} {ks : List NestedKey} {vs : List V} : Rd H a (.tup vs) → NVs H ks vs → NV H (.tup ks) (.ref a)
inductive NVs (H : Hp) : List NestedKey → List V → Prop
  | nil : NVs H [] []
  | cons {k : NestedKey} {v : V} {ks : List NestedKey} {vs : List V} : NV H k v → NVs H ks vs → NVs H (k :: ks) (v :: vs)
end
section
variable {K : PySem.W.Frag} {cl : Cl} {κ : Ka} {H : Hp}
mutual
theorem NV.of : ∀ (d : D) (v : V) (k : NestedKey), Rep K cl κ H v d → nkD d = some k → NV H k v
  | .int i, _, _, h, e => by cases h; cases e; exact .int i
  | .str s, _, _, h, e => by cases h; cases e; exact .text _
  | .tup ds, _, k, h, e => by
    unfold nkD at e
    cases e1 : nkL ds with
    | none => rw [e1] at e; cases e
    | some ks =>
      rw [e1] at e
      cases e
      cases h with
      | tup _ h0 h1 h2 h3 => exact .tup (.inl h1) (NVs.of ds _ _ h3 e1)
      | tupF _ _ _ h0 h1 h2 h3 => exact .tup (.inr ⟨_, h1⟩) (NVs.of ds _ _ h3 e1)
  | .non, _, _, _, e => by cases e
  | .bl _, _, _, _, e => by cases e
  | .lst _, _, _, _, e => by cases e
  | .scr _, _, _, _, e => by cases e
  | .box, _, _, _, e => by cases e
  | .ref _, _, _, _, e => by cases e
  | .cls _, _, _, _, e => by cases e
  | .exc .., _, _, _, e => by cases e
  | .dct .., _, _, _, e => by cases e
  | .dck .., _, _, _, e => by cases e
  | .dcn .., _, _, _, e => by cases e
theorem NVs.of : ∀ (ds : List D) (vs : List V) (ks : List NestedKey), RepL K cl κ H vs ds → nkL ds = some ks → NVs H ks vs
  | [], _, _, h, e => by cases h; cases e; exact .nil
  | d :: ds, _, ks, h, e => by
    cases h with
    | cons h1 h2 =>
      unfold nkL at e
      cases e1 : nkD d with
      | none => rw [e1] at e; cases e
      | some k =>
        rw [e1] at e
        cases e2 : nkL ds with
        | none => rw [e2] at e; cases e
        | some kr =>
          rw [e2] at e
          cases e
          exact .cons (NV.of d _ _ h1 e1) (NVs.of ds _ _ h2 e2)
end
end
section
variable {X : Cx}
theorem NVs.get {H : Hp} : ∀ {ks : List NestedKey} {vs : List V} {j : Nat} {k : NestedKey}, NVs H ks vs → ks[j]? = some k → ∃ v, vs[j]? = some v ∧ NV H k v
  | [], _, _, _, _, e => by simp at e
  | k :: ks, _, 0, k', h, e => by
    cases h with
    | cons h1 h2 => cases e; exact ⟨_, rfl, h1⟩
  | k :: ks, _, j + 1, k', h, e => by
    cases h with
    | cons h1 h2 =>
      obtain ⟨v, g1, g2⟩ := NVs.get (j := j) h2 (by simpa using e)
      exact ⟨v, by simpa using g1, g2⟩
end
section
variable {Γ Γ' : Gm} {κ κ' : Ka} {H H' : Hp} {env env' : En} {σ : Sl} {v : V} {st : Sto} {Y : Fam} {a b c e o i : Expr} {es : List Expr} {ta tb tc te to ti : PTE} {pos : Pos}
def pairsN : List D → Option (List (NestedKey × D × Int))
  | [] => some []
  | .tup [kd, .int v] :: r => match nkD kd with
    | some k => match pairsN r with
      | some kvs => some ((k, kd, v) :: kvs)
      | none => none
    | none => none
  | _ => none
def pDictN : List D → (R → Prop) → Prop
  | [.lst ds], Q => match pairsN ds with
    | some kvs => (kvs.map (·.1)).Nodup ∧ (∀ p ∈ kvs, p.1.depth ≤ 8 ∧ ∃ ds, p.2.1 = .tup ds) ∧ Q (.d (.dcn (kvs.map (·.2.1)) (kvs.map (·.2.2))))
    | none => False
  | _, _ => False
/-- the number of a key -/
def getN (ks : List D) (is : List Int) (kd : D) : Option Int := match nkD kd with
  | some k => match nkL ks with
    | some nks => ((nks.zip is).find? fun p => decide (p.1 = k)).map (·.2)
    | none => none
  | none => none
def pGN (d kd : D) (Q : R → Prop) : Prop := match d with
  | .dcn ks is => match getN ks is kd with
    | some i => Q (.d (.int i))
    | none => False
  | _ => False
/-- a, b, .. = a list of that length -/
def gLs (n : Nat) (t : PTGs) : PTG := fun d e Q => match d with
  | .lst ds => ds.length = n ∧ t ds e Q
  | _ => False
end
end Pu
set_option maxRecDepth 100000
set_option maxHeartbeats 4000000
namespace Pu
open PySem PySem.Spec PyProof.Rows L2 PuE
section
variable {Γ Γ' : Gm} {κ κ' : Ka} {H H' : Hp} {Y : Fam} {e : Expr} {te : PTE} {pos : Pos}
def iRevT (te : PTE) : PTI := fun x e Q => te x e fun r e1 => fz r e1 fun d e2 => match d with
  | .tup ds => Q ds.reverse e2
  | _ => False
end
end Pu
set_option maxRecDepth 100000
set_option maxHeartbeats 4000000
namespace Pu
open PySem L2 PuE
section
variable {Γ Γ' : Gm} {κ κ' : Ka} {H H' : Hp} {env env' : En} {σ : Sl} {v : V} {st : Sto} {Y : Fam} {a b c d e : Expr} {es : List Expr} {ta tb tc td te : PTE} {pos : Pos}
def tChS (g g' : List Nat → List Nat → Bool) (ta tb tc : PTE) : PTE := fun x e Q => ta x e fun r0 e1 => match rv r0 e1 with
  | some (.str i) => tb x e1 fun r1 e2 => match rv r1 e2 with
    | some (.str j) => if g i j = true then tc x e2 fun r2 e3 => match rv r2 e3 with
        | some (.str k) => Q (.d (.bl (g' j k))) e3
        | _ => False
      else Q (.d (.bl false)) e2
    | _ => False
  | _ => False
end
end Pu
set_option maxRecDepth 100000
set_option maxHeartbeats 4000000
namespace Pu
open PySem L2 PuE
end Pu
set_option maxRecDepth 100000
set_option maxHeartbeats 4000000
namespace PuE
open PySem PySem.Spec PyProof.Rows L2 RT PySem.W
end PuE
namespace Pu
open PySem L2 PuE
end Pu
set_option maxRecDepth 100000
set_option maxHeartbeats 4000000
namespace PuE
open PySem PySem.Spec PyProof.Rows L2 RT PySem.W
end PuE
namespace Pu
open PySem L2 PuE
end Pu
set_option maxRecDepth 100000
set_option maxHeartbeats 4000000
namespace PuE
open PySem PySem.Spec PyProof.Rows L2
end PuE
namespace Pu
open PySem L2 PuE
end Pu
set_option maxRecDepth 100000
set_option maxHeartbeats 4000000
namespace Pu
open PySem L2 PuE
end Pu
set_option maxRecDepth 100000
set_option maxHeartbeats 1000000
namespace PuE
open PySem PySem.Spec PyProof.Rows L2
end PuE
namespace Pu
open PySem L2 PySem.Spec PyProof.Rows PuE
end Pu
set_option maxRecDepth 100000
set_option maxHeartbeats 4000000
namespace PuE
open PySem PySem.Spec PyProof.Rows L2
end PuE
namespace Pu
open PySem L2 PuE
end Pu
set_option maxRecDepth 100000
set_option maxHeartbeats 4000000
namespace PuE
open PySem PySem.Spec PyProof.Rows L2
end PuE
namespace Pu
open PySem L2 PuE
section
variable {Γ Γ' : Gm} {κ κ' : Ka} {H H' : Hp} {env env' : En} {σ : Sl} {v : V} {st : Sto} {Y : Fam} {a b c d e : Expr} {es : List Expr} {ta tb tc td te : PTE} {pos : Pos}
def pLtN (d e : D) (Q : R → Prop) : Prop := match d, e with
  | .tup xs, .tup ys => match itsD xs, itsD ys with
    | some l, some m => l.map isS = m.map isS ∧ Q (.d (.bl (ltN l m)))
    | _, _ => False
  | _, _ => False
end
end Pu
set_option maxRecDepth 100000
set_option maxHeartbeats 4000000
namespace Pu
open PySem L2
end Pu
set_option maxRecDepth 100000
set_option maxHeartbeats 4000000
namespace Pu
open PySem L2
end Pu
set_option maxRecDepth 100000
set_option maxHeartbeats 4000000
namespace Pu
open PySem L2
end Pu
set_option maxRecDepth 100000
set_option maxHeartbeats 4000000
namespace Pu
open PySem L2 PySem.Spec PyProof.Rows
end Pu
set_option maxRecDepth 100000
set_option maxHeartbeats 4000000
namespace Pu
open PySem L2 PySem.Spec PyProof.Rows
section
variable {Γ Γ' : Gm} {κ κ' : Ka} {H H' : Hp} {env env' : En} {σ : Sl} {v : V} {st : Sto} {Y : Fam} {a b e : Expr} {es : List Expr} {ta tb te : PTE} {pos : Pos}
abbrev PMX := List D → Sto → (C → Sto → Prop) → PX → Prop
theorem Gh.same (g : Gh Γ κ st H) (hK : Γ'.K = Γ.K := by rfl) (hc : Γ'.cls = Γ.cls := by rfl) (h0 : Γ'.H0 = Γ.H0 := by rfl) (hk : Γ'.k0 = Γ.k0 := by rfl) : Gh Γ' κ st H :=
  ⟨by rw [hk]; exact g.sub, by rw [hk, h0]; exact g.new, g.trk, by rw [h0]; exact g.trk0, g.box, fun a k e => let ⟨so, h1, h2⟩ := g.obj a k e; ⟨so, h1, h2.switch hK hc⟩, g.inj, by rw [hk, h0]; exact g.base⟩
/-- a call of a def that may raise -/
def tCallX (m : PMX) (t : PTA) : PTE := fun x e Q => t x e fun ds e1 => m ds e1.st (fun c st' => Q c.toR ⟨e1.sl, st'⟩) x
def sRaise (c n : Nat) (t : PTA) : PTS := fun x D e => t x e fun ds e1 => ds.length = n ∧ x ⟨c, ds⟩ e1.st
/-- fl: the names of the fields; cb: which classes the clause takes; n: how many slots -/
def sTry (n i : Nat) (fl : Nat → List Str) (cb : Nat → Bool) (tb ts : PTS) : PTS := fun x D e => (e.sl.all fun c => !c.isOwn) = true ∧ i < n ∧
  tb (fun ex st => cb ex.c = true ∧ ts noX { nx := fun e' => D.nx (wipeE [i] e'), rt := D.rt, bk := fun e' => D.bk (wipeE [i] e'), ct := fun e' => D.ct (wipeE [i] e') } ⟨(List.replicate n C.un).set i (.d (.exc ex.c (fl ex.c) ex.ds)), st⟩) D e
def tIsX (tb : Nat → Option Bool) (te : PTE) : PTE := fun x e Q => te x e fun r e1 => match rv r e1 with
  | some (.exc c _ _) => match tb c with
    | some b => Q (.d (.bl b)) e1
    | none => False
  | _ => False
/-- the class named by x2: one of the program, or a built-in one -/
def NmC (X : Cx) (x : Str) (c : V) (cv : Value) : Prop := (∃ C : Addr, c = .ref C ∧ cv = .ref C ∧ X.mg x = some (.ref C)) ∨ (∃ T, c = .ty T ∧ cv = .type T ∧ X.mg x = none ∧ bootBuiltins x = some (.type T) ∧ x ≠ "__name__")
theorem NmC.rel {X : Cx} {x : Str} {c : V} {cv : Value} (h : NmC X x c cv) : ∀ u, RelV c u → u = cv := by
  rcases h with ⟨C, rfl, rfl, _⟩ | ⟨T, rfl, rfl, _⟩
  · exact fun u r => r
  · exact fun u r => r
/-- names of classes -/
inductive NmCs (X : Cx) : List Expr → List V → List Value → Prop
  | nil : NmCs X [] [] []
  | cons {x : Str} {p : Pos} {es : List Expr} {c : V} {cv : Value} {cs : List V} {cvs : List Value} (hg : Gl X x) (hd : (x == ("__debug__" : Str)) = false) (h : NmC X x c cv) (hs : starEach (.Name x p :: es) X.env = (false, eval (.Name x p) X.env) :: starEach es X.env) (r : NmCs X es cs cvs) : NmCs X (.Name x p :: es) (c :: cs) (cv :: cvs)
theorem NmCs.rel {X : Cx} {es : List Expr} {cs : List V} {cvs : List Value} (h : NmCs X es cs cvs) : ∀ us, Vals cs us → us = cvs := by
  induction h with
  | nil => intro us r; cases r; rfl
  | cons hg hd h hs r ih =>
    intro us q
    cases q with
    | cons q1 q2 => rw [h.rel _ q1, ih _ q2]
/-- e.f -/
def xlk (n : Str) (ns : List Str) (ds : List D) : Option D := ((ns.zip ds).reverse).lookup n
def tXA (n : Str) (cb : Nat → Bool) (te : PTE) : PTE := fun x e Q => te x e fun r e1 => match rv r e1 with
  | some (.exc c ns ds) => cb c = true ∧ match xlk n ns ds with
    | some d => Q (.d d) e1
    | none => False
  | _ => False
theorem PR.zip {K : PySem.W.Frag} {cl : Cl} : ∀ {ns : List Str} {ds : List D} {vs : List V}, RepL K cl κ H vs ds → PR K cl κ H (ns.zip vs) (ns.zip ds)
  | [], _, _, _ => by simp only [List.zip_nil_left]; exact .nil
  | _ :: _, [], _, h => by cases h; exact .nil
  | _ :: ns, d :: ds, _, h => by cases h with | cons h1 h2 => exact .cons h1 (PR.zip h2)
theorem PR.lookup {K : PySem.W.Frag} {cl : Cl} {n : Str} {d : D} : ∀ {ds : List (Str × D)} {vs : List (Str × V)}, PR K cl κ H vs ds → ds.lookup n = some d → ∃ v, vs.lookup n = some v ∧ Rep K cl κ H v d
  | [], _, h, e => by simp at e
  | (m, y) :: ds, _, h, e => by
    cases h with
    | @cons _ v _ _ _ h1 h2 =>
      rw [List.lookup_cons] at e ⊢
      by_cases z : (n == m) = true
      · rw [z] at e ⊢
        cases e
        exact ⟨_, rfl, h1⟩
      · rw [Bool.eq_false_iff.mpr z] at e ⊢
        exact PR.lookup h2 e
end
end Pu
set_option maxRecDepth 100000
set_option maxHeartbeats 4000000
namespace Pu
open PySem L2 PySem.Spec PyProof.Rows
/-- tables by number -/
def tbl (bs : List Bool) : Nat → Option Bool := fun c => bs[c]?
def cbl (n : Nat) : Nat → Bool := fun c => decide (c < n)
end Pu
set_option maxRecDepth 100000
set_option maxHeartbeats 4000000
namespace Pu
open PySem L2 PySem.Spec PyProof.Rows
section
variable {Γ Γ' : Gm} {κ κ' : Ka} {H H' : Hp} {env env' : En} {σ : Sl} {v : V} {st : Sto} {Y : Fam} {a b e : Expr} {es : List Expr} {ta tb te : PTE} {pos : Pos}
/-- C(e, ..) as a value -/
def tMkX (c : Nat) (ns : List Str) (t : PTA) : PTE := fun x e Q => t x e fun ds e1 => ds.length = ns.length ∧ Q (.d (.exc c ns ds)) e1
def tMk0 (c : Nat) : PTE := fun _ e Q => Q (.d (.exc c [] [])) e
def sRaise0 (c : Nat) : PTS := fun x D e => x ⟨c, []⟩ e.st
end
end Pu
set_option maxRecDepth 100000
set_option maxHeartbeats 4000000
namespace Pu
open PySem L2 PySem.Spec PyProof.Rows
section
variable {Γ Γ' : Gm} {κ κ' : Ka} {H H' : Hp} {env env' : En} {σ : Sl} {v : V} {st : Sto} {Y : Fam} {a b e : Expr} {es : List Expr} {ta tb te : PTE} {pos : Pos}
def sTry0 (n : Nat) (cb : Nat → Bool) (tb ts : PTS) : PTS := fun x D e => (e.sl.all fun c => !c.isOwn) = true ∧
  tb (fun ex st => cb ex.c = true ∧ ts noX D ⟨List.replicate n C.un, st⟩) D e
end
end Pu
set_option maxRecDepth 100000
set_option maxHeartbeats 4000000
namespace Pu
open PySem L2
theorem forR_inv {g : PTG} {tb : PTS} {x : PX} {P : PEn} (I : List D → En → Prop) (h : ∀ d r e, I (d :: r) e → ∀ N : En → Prop, (∀ e', I r e' → N e') → g d e fun e' => tb x { P with nx := N, ct := N, bk := P.nx } e') (hd : ∀ e, I [] e → P.nx e) :
    ∀ (ds : List D) (e : En), I ds e → forR g tb x P ds e
  | [], e, hi => hd e hi
  | d :: r, e, hi => h d r e hi (forR g tb x P r) fun e' hi' => forR_inv I h hd r e' hi'
/-- all related, one by one -/
inductive All2 {α β : Type} (R : α → β → Prop) : List α → List β → Prop
  | nil : All2 R [] []
  | cons {a : α} {b : β} {as : List α} {bs : List β} : R a b → All2 R as bs → All2 R (a :: as) (b :: bs)
theorem All2.length {α β : Type} {R : α → β → Prop} : ∀ {as : List α} {bs : List β}, All2 R as bs → bs.length = as.length
  | _, _, .nil => rfl
  | _, _, .cons _ h => by simp [h.length]
theorem lcR_rel {g : PTG} {te : PTE} {vs : List Nat} {e : En} {Q : List D → En → Prop} (R : D → D → Prop) :
    ∀ (ds acc : List D), (∀ d ∈ ds, ∀ K : D → En → Prop, (∀ y, R d y → K y e) → g d e fun e1 => te noX e1 fun r e3 => fz r e3 fun y e4 => K y (wipeE vs e4)) → (∀ ys, All2 R ds ys → Q (acc ++ ys) e) → lcR g cYes te vs ds acc e Q
  | [], acc, _, k => by have := k [] .nil; rw [List.append_nil] at this; exact this
  | d :: ds, acc, h, k => by
    refine h d (by simp) (fun y e' => lcR g cYes te vs ds (acc ++ [y]) e' Q) fun y r => ?_
    exact lcR_rel R ds (acc ++ [y]) (fun d' hd => h d' (List.mem_cons_of_mem _ hd)) fun ys hy => by
      have := k (y :: ys) (.cons r hy)
      rw [List.append_assoc]
      exact this
theorem rngI_length (lo : Int) (n : Nat) : (rngI lo n).length = n := by unfold rngI; simp
theorem rngI_mem {lo : Int} {n : Nat} {d : D} (h : d ∈ rngI lo n) : ∃ i : Nat, i < n ∧ d = .int (lo + i) := by
  unfold rngI at h
  obtain ⟨i, hi, rfl⟩ := List.mem_map.mp h
  exact ⟨i, List.mem_range.mp hi, rfl⟩
theorem rngI_succ (lo : Int) (n : Nat) : rngI lo (n + 1) = .int lo :: rngI (lo + 1) n := by
  unfold rngI
  rw [List.range_succ_eq_map, List.map_cons, List.map_map]
  congr 1
  · simp
  · apply List.map_congr_left
    intro i _
    simp only [Function.comp, D.int.injEq]
    omega
theorem line_eq : (sizeLine : Nat) = 16777216 := sizeLine_eq
theorem strL_map (r : List (List Nat)) : strL (r.map D.str) = some r := by
  induction r with
  | nil => rfl
  | cons x r ih => simp only [List.map_cons, strL, ih]
theorem joinN_nil (r : List (List Nat)) : joinN [] r = r.flatten := by
  induction r with
  | nil => rfl
  | cons x r ih =>
    cases r with
    | nil => simp [joinN]
    | cons y r => simp only [joinN, List.nil_append, ih, List.flatten_cons]
theorem joinN_signs (w : List Nat) : joinN [] (w.map fun c => [c]) = w := by
  rw [joinN_nil]
  induction w with
  | nil => rfl
  | cons c w ih => simp [ih]
end Pu
set_option maxRecDepth 100000
set_option maxHeartbeats 4000000
namespace Pu
open PySem L2 PySem.Spec PyProof.Rows
/-- the law's promise, at its script -/
def spLaw (K : PySem.W.Frag) : Sp := fun vs H Q _ => ∃ (a : Addr) (ns : List Int), vs = [.ref a] ∧ SqL K H a (ns.map V.int) ∧ ns.length ≤ 63 ∧ ∀ H', Q (.bl true) H'
theorem nofrz {k : Kd} {p : Prop} (e : k = .frz) (h : k ≠ .frz := by intro z; cases z) : p := absurd e h
theorem gh_start {K : PySem.W.Frag} {H : Hp} {κ : Ka} {cls : Cl} {flds : Nat → List Str} {E : XK} {x : PX} (h : ∀ a k, κ a = some k → k = .frz ∧ H a ≠ none) : Gh ⟨K, H, κ, cls, flds, E, x⟩ κ [] H :=
  ⟨fun _ _ e => e, fun _ _ e => .inl e, fun a k e => (h a k e).2, fun _ e => e, fun a e => nofrz (h a _ e).1, fun a k e => nofrz (h a _ e).1, fun a b k e _ => nofrz (h a _ e).1, fun a o e _ => e⟩
theorem script_rep {K : PySem.W.Frag} {H : Hp} {a : Addr} {ns : List Int} {cls : Cl} (h : SqL K H a (ns.map V.int)) (hl : ns.length ≤ 63) : ∃ κ : Ka, (∀ a k, κ a = some k → k = .frz ∧ H a ≠ none) ∧ Rep K cls κ H (.ref a) (.scr ns.length) := by
  rcases h with h | h
  · refine ⟨fun b => if b = a then some .frz else none, fun b k e => ?_, .scr (.inl ⟨if_pos rfl, h⟩) rfl hl⟩
    have e : (if b = a then some Kd.frz else none) = some k := e
    by_cases hb : b = a
    · rw [if_pos hb] at e
      cases e
      subst hb
      refine ⟨rfl, fun z => ?_⟩
      rcases h with h | ⟨o, h⟩
      · rw [h] at z; cases z
      · rw [h] at z; cases z
    · rw [if_neg hb] at e; cases e
  · exact ⟨fun _ => none, fun a k e => (by cases e), .scr (.inr h) rfl hl⟩
theorem walk {l : PySem.W.OpenLaw} {q : Program} {loose : List Str} {XP : (Str → Option Value) → Heap → Prop} {YP : World → Heap → Prop} {d : DefRec} {K : Params → PySem.W.Frag} {k : Nat} (hr : Room k callerA) (hn : l.most = some 63) (hdf : d.params.defaults = [])
    (hY : ∀ (w : World) (h : Heap), YP w h → (K w.params).In h)
    (F : ∀ (w : World) (mg : Str → Option Value) (fa : Addr) (h : Heap), (K w.params).In h → h.Ns mainGlobals mg → mg d.name = some (.ref fa) →
      ∃ fd : FuncData, (∀ (s : Shared) (u : Value), BindsTo s fd ⟨[u], []⟩ [("_law_script", u)]) ∧ ∀ base : Heap, (K w.params).In base → base.Ns mainGlobals mg → FnG l.prog w (K w.params) mg base CX0 k fa fd ["_law_script"] (spLaw (K w.params))) :
    PySem.W.WalkO q loose XP YP l.row.toRowW d [] (fun f vs => PySem.call f vs) :=
  walkG (sp := spLaw) hr hn hdf hY F fun _ _ a ns hl hS => ⟨a, ns, rfl, hS, hl, fun _ => rfl⟩
end Pu
set_option maxRecDepth 100000
set_option maxHeartbeats 4000000
namespace Pu
open PySem L2
/-- what rewriting shall not enter -/
def Tg {β : Type} (_ : β) : Type := Unit
structure HB (β : Type) : Type where
  b : β
  h : Tg b := ()
def opt {α : Type} (o : Option α) (h : HB (α → Prop)) : Prop := match o with
  | some a => h.b a
  | none => False
theorem opt_some {α : Type} (a : α) (f : α → Prop) : opt (some a) (HB.mk f ()) = f a := rfl
theorem opt_of {α : Type} {o : Option α} {a : α} {f : α → Prop} (h : o = some a) (q : f a) : opt o (HB.mk f ()) := by rw [h]; exact q
def br (b : Bool) (h : HB (Prop × Prop)) : Prop := if b = true then h.b.1 else h.b.2
theorem br_true (p q : Prop) : br true (HB.mk (p, q) ()) = p := rfl
theorem br_false (p q : Prop) : br false (HB.mk (p, q) ()) = q := rfl
theorem br_intro {b : Bool} {p q : Prop} (h1 : b = true → p) (h2 : b = false → q) : br b (HB.mk (p, q) ()) := by
  cases b
  · exact h2 rfl
  · exact h1 rfl
theorem br_pos {b : Bool} {p q : Prop} (h : b = true) (h1 : p) : br b (HB.mk (p, q) ()) := by rw [h]; exact h1
theorem br_neg {b : Bool} {p q : Prop} (h : b = false) (h1 : q) : br b (HB.mk (p, q) ()) := by rw [h]; exact h1
def nameC (c : C) (h : HB (Nat × En × (R → En → Prop))) : Prop := match c with
  | .un => False
  | .d d => h.b.2.2 (.d d) h.b.2.1
  | _ => h.b.2.2 (.nam h.b.1) h.b.2.1
theorem nameC_d {d i e Q} : nameC (.d d) (HB.mk (i, e, Q) ()) = Q (.d d) e := rfl
theorem nameC_own {d i e Q} : nameC (.own d) (HB.mk (i, e, Q) ()) = Q (.nam i) e := rfl
theorem nameC_dK {d i e Q} : nameC (.dK d) (HB.mk (i, e, Q) ()) = Q (.nam i) e := rfl
theorem nameC_dT {d i e Q} : nameC (.dT d) (HB.mk (i, e, Q) ()) = Q (.nam i) e := rfl
theorem x_name {i x e Q} : tName i x e Q = (opt e.sl[i]? <| HB.mk (fun c => nameC c (HB.mk (i, e, Q) ())) ()) := by
  unfold tName opt
  cases e.sl[i]? with
  | none => rfl
  | some c => cases c <;> rfl
def fzC (c : C) (h : HB (Nat × En × (D → En → Prop))) : Prop := match c with
  | .d d => h.b.2.2 d h.b.2.1
  | .own ds => h.b.2.2 (.lst ds) (h.b.2.1.setC h.b.1 (.d (.lst ds)))
  | .dK kvs => h.b.2.2 (.dck (kvs.map Prod.fst) (kvs.map Prod.snd)) (h.b.2.1.setC h.b.1 (.d (.dck (kvs.map Prod.fst) (kvs.map Prod.snd))))
  | .dT kvs => h.b.2.2 (.dct (kvs.map Prod.fst) (kvs.map Prod.snd)) (h.b.2.1.setC h.b.1 (.d (.dct (kvs.map Prod.fst) (kvs.map Prod.snd))))
  | _ => False
theorem fzC_d {d i e Q} : fzC (.d d) (HB.mk (i, e, Q) ()) = Q d e := rfl
theorem fzC_own {d i e Q} : fzC (.own d) (HB.mk (i, e, Q) ()) = Q (.lst d) (e.setC i (.d (.lst d))) := rfl
theorem fzC_dK {kvs i e Q} : fzC (.dK kvs) (HB.mk (i, e, Q) ()) = Q (.dck (kvs.map Prod.fst) (kvs.map Prod.snd)) (e.setC i (.d (.dck (kvs.map Prod.fst) (kvs.map Prod.snd)))) := rfl
theorem fzC_dT {kvs i e Q} : fzC (.dT kvs) (HB.mk (i, e, Q) ()) = Q (.dct (kvs.map Prod.fst) (kvs.map Prod.snd)) (e.setC i (.d (.dct (kvs.map Prod.fst) (kvs.map Prod.snd)))) := rfl
theorem x_fzn {i e Q} : fz (.nam i) e Q = (opt e.sl[i]? <| HB.mk (fun c => fzC c (HB.mk (i, e, Q) ())) ()) := by
  show (match e.sl[i]? with | some (.d d) => Q d e | some (.own ds) => Q (.lst ds) (e.setC i (.d (.lst ds))) | some (.dK kvs) => Q (.dck (kvs.map Prod.fst) (kvs.map Prod.snd)) (e.setC i (.d (.dck (kvs.map Prod.fst) (kvs.map Prod.snd)))) | some (.dT kvs) => Q (.dct (kvs.map Prod.fst) (kvs.map Prod.snd)) (e.setC i (.d (.dct (kvs.map Prod.fst) (kvs.map Prod.snd)))) | _ => False) = _
  unfold opt
  cases e.sl[i]? with
  | none => rfl
  | some c => cases c <;> rfl
theorem x_fzK {kvs e Q} : fz (.dK kvs) e Q = Q (.dck (kvs.map Prod.fst) (kvs.map Prod.snd)) e := rfl
theorem x_fzT {kvs e Q} : fz (.dT kvs) e Q = Q (.dct (kvs.map Prod.fst) (kvs.map Prod.snd)) e := rfl
theorem x_fzd {d e Q} : fz (.d d) e Q = Q d e := rfl
theorem x_fzo {d e Q} : fz (.own d) e Q = Q (.lst d) e := rfl
def rvC : Option C → Option D
  | some (.d d) => some d
  | some (.own ds) => some (.lst ds)
  | _ => none
theorem rvC_d {d} : rvC (some (.d d)) = some d := rfl
theorem rvC_own {d} : rvC (some (.own d)) = some (.lst d) := rfl
theorem x_rvn {i e} : rv (.nam i) e = rvC e.sl[i]? := by
  show (match e.sl[i]? with | some (.d d) => some d | some (.own ds) => some (.lst ds) | _ => none) = _
  unfold rvC
  cases e.sl[i]? with
  | none => rfl
  | some c => cases c <;> rfl
theorem x_rvd {d e} : rv (.d d) e = some d := rfl
theorem x_rvo {d e} : rv (.own d) e = some (.lst d) := rfl
def retC (c : C) (h : HB (PEn × En)) : Prop := match c with
  | .un => False
  | c => h.b.1.rt c h.b.2
theorem retC_d {D d e} : retC (.d d) (HB.mk (D, e) ()) = D.rt (.d d) e := rfl
theorem retC_own {D d e} : retC (.own d) (HB.mk (D, e) ()) = D.rt (.own d) e := rfl
theorem x_retn {D i e} : retR D (.nam i) e = (opt e.sl[i]? <| HB.mk (fun c => retC c (HB.mk (D, e) ())) ()) := by
  unfold retR opt
  simp only
  cases e.sl[i]? with
  | none => rfl
  | some c => cases c <;> rfl
theorem x_retd {D d e} : retR D (.d d) e = D.rt (.d d) e := rfl
theorem x_reto {D d e} : retR D (.own d) e = D.rt (.own d) e := rfl
theorem x_hd {d e Q} : hold (.d d) e Q = Q (.d d) e := rfl
theorem x_ho {d e Q} : hold (.own d) e Q = Q (.d (.lst d)) e := rfl
theorem x_hn {i e Q} : hold (.nam i) e Q = Q (.nam i) e := rfl
theorem x_ad {i d e Q} : asgR i (.d d) e Q = Q (e.setC i (.d d)) := rfl
theorem x_ao {i d e Q} : asgR i (.own d) e Q = Q (e.setC i (.own d)) := rfl
theorem x_an {i j e Q} : asgR i (.nam j) e Q = fz (.nam j) e fun d e1 => Q (e1.setC i (.d d)) := rfl
theorem x_set {l s i c} : En.setC ⟨l, s⟩ i c = ⟨l.set i c, s⟩ := rfl
/-- statements -/
theorem x_seq {t u x D e} : sSeq t u x D e = t x { D with nx := u x D } e := rfl
theorem x_next {x D e} : sNext x D e = D.nx e := rfl
theorem x_break {x D e} : sBreak x D e = D.bk e := rfl
theorem x_cont {x D e} : sCont x D e = D.ct e := rfl
theorem x_drop {t x D e} : sDrop t x D e = t x e fun _ e1 => D.nx e1 := rfl
theorem x_ret {t x D e} : sRet t x D e = t x e fun r e1 => retR D r e1 := rfl
theorem x_retN {x D e} : sRetN x D e = D.rt (.d .non) e := rfl
theorem x_if {c t u x D e} : sIf c t u x D e = c x e fun b e1 => br b (HB.mk ((t x D e1), (u x D e1)) ()) := rfl
theorem x_asg {i t x D e} : sAsg i t x D e = t x e fun r e1 => i < e1.sl.length ∧ asgR i r e1 D.nx := rfl
theorem x_asgG {g t x D e} : sAsgG g t x D e = t x e fun r e1 => fz r e1 fun d e2 => g d e2 D.nx := rfl
def forH (ds : List D) (e : En) (h : HB (PTG × PTS × PX × PEn)) : Prop := forR h.b.1 h.b.2.1 h.b.2.2.1 h.b.2.2.2 ds e
def whH (e : En) (h : HB (PTT × PTS × PX × PEn)) : Prop := sWhile h.b.1 h.b.2.1 h.b.2.2.1 h.b.2.2.2 e
theorem x_while {c tb x P e} : sWhile c tb x P e = whH e (HB.mk (c, tb, x, P) ()) := rfl
def lcH (ds : List D) (e : En) (h : HB (PTG × PTT × PTE × List Nat × (List D → En → Prop))) : Prop := lcR h.b.1 h.b.2.1 h.b.2.2.1 h.b.2.2.2.1 ds [] e h.b.2.2.2.2
theorem x_for {ti g tb x D e} : sFor ti g tb x D e = ti x e fun items e1 => forH items e1 (HB.mk (g, tb, x, D) ()) := rfl
/-- expressions -/
def k2c (o1 o2 : Option D) (e : En) (h : HB ((D → D → (R → Prop) → Prop) × (R → En → Prop))) : Prop := match o1, o2 with
  | some a, some b => h.b.1 a b fun r => h.b.2 r e
  | _, _ => False
def k2b (r1 r2 : R) (e : En) (h : HB ((D → D → (R → Prop) → Prop) × (R → En → Prop))) : Prop := k2c (rv r1 e) (rv r2 e) e h
def k2a (r : R) (e : En) (h : HB (PTE × PX × (D → D → (R → Prop) → Prop) × (R → En → Prop))) : Prop := hold r e fun r e => h.b.1 h.b.2.1 e fun r2 e2 => k2b r r2 e2 (HB.mk h.b.2.2 ())
theorem x_2 {ta tb p x e Q} : t2 ta tb p x e Q = ta x e fun r1 e1 => k2a r1 e1 (HB.mk (tb, x, p, Q) ()) := by
  unfold t2 k2a k2b k2c
  rfl
theorem x_k2ad {d tb p x e Q} : k2a (.d d) e (HB.mk (tb, x, p, Q) ()) = tb x e fun r2 e2 => k2b (.d d) r2 e2 (HB.mk (p, Q) ()) := rfl
theorem x_k2ao {d tb p x e Q} : k2a (.own d) e (HB.mk (tb, x, p, Q) ()) = tb x e fun r2 e2 => k2b (.d (.lst d)) r2 e2 (HB.mk (p, Q) ()) := rfl
theorem x_k2an {i tb p x e Q} : k2a (.nam i) e (HB.mk (tb, x, p, Q) ()) = tb x e fun r2 e2 => k2b (.nam i) r2 e2 (HB.mk (p, Q) ()) := rfl
theorem x_k2b {r1 r2 e h} : k2b r1 r2 e h = k2c (rv r1 e) (rv r2 e) e h := rfl
theorem x_k2c {a b e p Q} : k2c (some a) (some b) e (HB.mk (p, Q) ()) = p a b fun r => Q r e := rfl
def k1c (o : Option D) (e : En) (h : HB ((D → (R → Prop) → Prop) × (R → En → Prop))) : Prop := match o with
  | some a => h.b.1 a fun r => h.b.2 r e
  | _ => False
theorem x_1 {ta p x e Q} : t1 ta p x e Q = ta x e fun r1 e1 => k1c (rv r1 e1) e1 (HB.mk (p, Q) ()) := by
  unfold t1 k1c
  rfl
theorem x_k1c {a e p Q} : k1c (some a) e (HB.mk (p, Q) ()) = p a fun r => Q r e := rfl
theorem x_D {d x e Q} : tD d x e Q = Q (.d d) e := rfl
def bC (d : D) (h : HB (Bool → Prop)) : Prop := match d with
  | .bl b => h.b b
  | _ => False
theorem bC_b {b f} : bC (.bl b) (HB.mk f ()) = f b := rfl
def kBc (o : Option D) (e : En) (h : HB (Bool → En → Prop)) : Prop := match o with
  | some (.bl b) => h.b b e
  | _ => False
theorem x_B {t x e Q} : tB t x e Q = t x e fun r e1 => kBc (rv r e1) e1 (HB.mk Q ()) := by
  unfold tB kBc
  rfl
theorem x_kBc {b e Q} : kBc (some (.bl b)) e (HB.mk Q ()) = Q b e := rfl
def kAn (c : Bool) (e : En) (h : HB (PTT × PX × (Bool → En → Prop))) : Prop := br c (HB.mk ((h.b.1 h.b.2.1 e h.b.2.2), (h.b.2.2 false e)) ())
theorem x_and {t u x e Q} : tAnd t u x e Q = t x e fun c e1 => kAn c e1 (HB.mk (u, x, Q) ()) := rfl
theorem x_kAn {c u x e Q} : kAn c e (HB.mk (u, x, Q) ()) = br c (HB.mk ((u x e Q), (Q false e)) ()) := rfl
def kOr (c : Bool) (e : En) (h : HB (PTT × PX × (Bool → En → Prop))) : Prop := br c (HB.mk ((h.b.2.2 true e), (h.b.1 h.b.2.1 e h.b.2.2)) ())
theorem x_or {t u x e Q} : tOr t u x e Q = t x e fun c e1 => kOr c e1 (HB.mk (u, x, Q) ()) := rfl
theorem x_kOr {c u x e Q} : kOr c e (HB.mk (u, x, Q) ()) = br c (HB.mk ((Q true e), (u x e Q)) ()) := rfl
def kNo (c : Bool) (e : En) (h : HB (Bool → En → Prop)) : Prop := h.b (!c) e
theorem x_not {t x e Q} : tNot t x e Q = t x e fun c e1 => kNo c e1 (HB.mk Q ()) := rfl
theorem x_kNo {c e Q} : kNo c e (HB.mk Q ()) = Q (!c) e := rfl
def kAV (o : Option D) (e : En) (h : HB (PTE × PX × (R → En → Prop))) : Prop := match o with
  | some (.bl c) => br c (HB.mk ((h.b.1 h.b.2.1 e h.b.2.2), (h.b.2.2 (.d (.bl false)) e)) ())
  | _ => False
theorem x_andV {ta tb x e Q} : tAndV ta tb x e Q = ta x e fun r e1 => kAV (rv r e1) e1 (HB.mk (tb, x, Q) ()) := by
  unfold tAndV kAV br
  rfl
theorem x_kAV {c tb x e Q} : kAV (some (.bl c)) e (HB.mk (tb, x, Q) ()) = br c (HB.mk ((tb x e Q), (Q (.d (.bl false)) e)) ()) := rfl
def kOV (o : Option D) (e : En) (h : HB (PTE × PX × (R → En → Prop))) : Prop := match o with
  | some (.bl c) => br c (HB.mk ((h.b.2.2 (.d (.bl true)) e), (h.b.1 h.b.2.1 e h.b.2.2)) ())
  | _ => False
theorem x_orV {ta tb x e Q} : tOrV ta tb x e Q = ta x e fun r e1 => kOV (rv r e1) e1 (HB.mk (tb, x, Q) ()) := by
  unfold tOrV kOV br
  rfl
theorem x_kOV {c tb x e Q} : kOV (some (.bl c)) e (HB.mk (tb, x, Q) ()) = br c (HB.mk ((Q (.d (.bl true)) e), (tb x e Q)) ()) := rfl
def kNV (o : Option D) (e : En) (h : HB (R → En → Prop)) : Prop := match o with
  | some (.bl c) => h.b (.d (.bl (!c))) e
  | _ => False
theorem x_notV {ta x e Q} : tNotV ta x e Q = ta x e fun r e1 => kNV (rv r e1) e1 (HB.mk Q ()) := by
  unfold tNotV kNV
  rfl
theorem x_kNV {c e Q} : kNV (some (.bl c)) e (HB.mk Q ()) = Q (.d (.bl (!c))) e := rfl
theorem x_tif {t ta tb x e Q} : tIf t ta tb x e Q = t x e fun c e1 => br c (HB.mk ((ta x e1 Q), (tb x e1 Q)) ()) := rfl
theorem x_nil {x e Q} : tNil x e Q = Q [] e := rfl
def kC2 (d : D) (ds : List D) (e : En) (h : HB (List D → En → Prop)) : Prop := h.b (d :: ds) e
theorem x_kC2 {d ds e Q} : kC2 d ds e (HB.mk Q ()) = Q (d :: ds) e := rfl
def kC1 (r : R) (e : En) (h : HB (PTA × PX × (List D → En → Prop))) : Prop := fz r e fun d e2 => h.b.1 h.b.2.1 e2 fun ds e3 => kC2 d ds e3 (HB.mk h.b.2.2 ())
def kC3 (c : Option C) (i : Nat) (e : En) (h : HB (PTA × PX × (List D → En → Prop))) : Prop := match c with
  | some (.d d) => h.b.1 h.b.2.1 e fun ds e3 => kC2 d ds e3 (HB.mk h.b.2.2 ())
  | some (.own d) => h.b.1 h.b.2.1 (e.setC i (.d (.lst d))) fun ds e3 => kC2 (.lst d) ds e3 (HB.mk h.b.2.2 ())
  | some (.dK kvs) => h.b.1 h.b.2.1 (e.setC i (.d (.dck (kvs.map Prod.fst) (kvs.map Prod.snd)))) fun ds e3 => kC2 (.dck (kvs.map Prod.fst) (kvs.map Prod.snd)) ds e3 (HB.mk h.b.2.2 ())
  | some (.dT kvs) => h.b.1 h.b.2.1 (e.setC i (.d (.dct (kvs.map Prod.fst) (kvs.map Prod.snd)))) fun ds e3 => kC2 (.dct (kvs.map Prod.fst) (kvs.map Prod.snd)) ds e3 (HB.mk h.b.2.2 ())
  | _ => False
theorem x_cons {ta tr x e Q} : tCons ta tr x e Q = ta x e fun r e1 => kC1 r e1 (HB.mk (tr, x, Q) ()) := rfl
theorem x_kC1d {d tr x e Q} : kC1 (.d d) e (HB.mk (tr, x, Q) ()) = tr x e fun ds e3 => kC2 d ds e3 (HB.mk Q ()) := rfl
theorem x_kC1o {d tr x e Q} : kC1 (.own d) e (HB.mk (tr, x, Q) ()) = tr x e fun ds e3 => kC2 (.lst d) ds e3 (HB.mk Q ()) := rfl
theorem x_kC1k {kvs tr x e Q} : kC1 (.dK kvs) e (HB.mk (tr, x, Q) ()) = tr x e fun ds e3 => kC2 (.dck (kvs.map Prod.fst) (kvs.map Prod.snd)) ds e3 (HB.mk Q ()) := rfl
theorem x_kC1t {kvs tr x e Q} : kC1 (.dT kvs) e (HB.mk (tr, x, Q) ()) = tr x e fun ds e3 => kC2 (.dct (kvs.map Prod.fst) (kvs.map Prod.snd)) ds e3 (HB.mk Q ()) := rfl
theorem x_kC1n {i tr x e Q} : kC1 (.nam i) e (HB.mk (tr, x, Q) ()) = kC3 e.sl[i]? i e (HB.mk (tr, x, Q) ()) := by
  unfold kC1 kC3
  rw [x_fzn]
  unfold opt fzC
  cases e.sl[i]? with
  | none => rfl
  | some c => cases c <;> rfl
theorem x_kC3d {i d tr x e Q} : kC3 (some (.d d)) i e (HB.mk (tr, x, Q) ()) = tr x e fun ds e3 => kC2 d ds e3 (HB.mk Q ()) := rfl
theorem x_kC3o {i d tr x e Q} : kC3 (some (.own d)) i e (HB.mk (tr, x, Q) ()) = tr x (e.setC i (.d (.lst d))) fun ds e3 => kC2 (.lst d) ds e3 (HB.mk Q ()) := rfl
theorem x_kC3k {i kvs tr x e Q} : kC3 (some (.dK kvs)) i e (HB.mk (tr, x, Q) ()) = tr x (e.setC i (.d (.dck (kvs.map Prod.fst) (kvs.map Prod.snd)))) fun ds e3 => kC2 (.dck (kvs.map Prod.fst) (kvs.map Prod.snd)) ds e3 (HB.mk Q ()) := rfl
theorem x_kC3t {i kvs tr x e Q} : kC3 (some (.dT kvs)) i e (HB.mk (tr, x, Q) ()) = tr x (e.setC i (.d (.dct (kvs.map Prod.fst) (kvs.map Prod.snd)))) fun ds e3 => kC2 (.dct (kvs.map Prod.fst) (kvs.map Prod.snd)) ds e3 (HB.mk Q ()) := rfl
def kTu (ds : List D) (e : En) (h : HB (R → En → Prop)) : Prop := ds.length ≤ sizeLine ∧ h.b (.d (.tup ds)) e
theorem x_tup {t x e Q} : tTup t x e Q = t x e fun ds e1 => kTu ds e1 (HB.mk Q ()) := rfl
theorem x_kTu {ds e Q} : kTu ds e (HB.mk Q ()) = (ds.length ≤ sizeLine ∧ Q (.d (.tup ds)) e) := rfl
def kLs (ds : List D) (e : En) (h : HB (R → En → Prop)) : Prop := ds.length ≤ sizeLine ∧ h.b (.own ds) e
theorem x_lst {t x e Q} : tLst t x e Q = t x e fun ds e1 => kLs ds e1 (HB.mk Q ()) := rfl
theorem x_kLs {ds e Q} : kLs ds e (HB.mk Q ()) = (ds.length ≤ sizeLine ∧ Q (.own ds) e) := rfl
theorem x_rnil {x e Q} : rNil x e Q = Q [] e := rfl
def kR2 (r : R) (rs : List R) (e : En) (h : HB (List R → En → Prop)) : Prop := h.b (r :: rs) e
theorem x_kR2 {r rs e Q} : kR2 r rs e (HB.mk Q ()) = Q (r :: rs) e := rfl
def kR1 (r : R) (e : En) (h : HB (PTR × PX × (List R → En → Prop))) : Prop := hold r e fun r e2 => h.b.1 h.b.2.1 e2 fun rs e3 => kR2 r rs e3 (HB.mk h.b.2.2 ())
theorem x_rcons {ta tr x e Q} : rCons ta tr x e Q = ta x e fun r e1 => kR1 r e1 (HB.mk (tr, x, Q) ()) := rfl
theorem x_kR1d {d tr x e Q} : kR1 (.d d) e (HB.mk (tr, x, Q) ()) = tr x e fun rs e3 => kR2 (.d d) rs e3 (HB.mk Q ()) := rfl
theorem x_kR1o {d tr x e Q} : kR1 (.own d) e (HB.mk (tr, x, Q) ()) = tr x e fun rs e3 => kR2 (.d (.lst d)) rs e3 (HB.mk Q ()) := rfl
theorem x_kR1n {i tr x e Q} : kR1 (.nam i) e (HB.mk (tr, x, Q) ()) = tr x e fun rs e3 => kR2 (.nam i) rs e3 (HB.mk Q ()) := rfl
def kCP (o : Option (List D)) (e : En) (h : HB ((List D → (R → Prop) → Prop) × (R → En → Prop))) : Prop := match o with
  | some ds => h.b.1 ds fun r => h.b.2 r e
  | _ => False
theorem x_callP {p t x e Q} : tCallP p t x e Q = t x e fun rs e1 => kCP (rvL rs e1) e1 (HB.mk (p, Q) ()) := by
  unfold tCallP kCP
  congr 1; funext rs e1
  cases rvL rs e1 <;> rfl
theorem x_kCP {ds e p Q} : kCP (some ds) e (HB.mk (p, Q) ()) = p ds fun r => Q r e := rfl
def consO : Option D → Option (List D) → Option (List D)
  | some a, some l => some (a :: l)
  | _, _ => none
theorem consO_s {a l} : consO (some a) (some l) = some (a :: l) := rfl
theorem x_rvLc {r rs e} : rvL (r :: rs) e = consO (rv r e) (rvL rs e) := by
  simp only [rvL]
  cases rv r e <;> cases rvL rs e <;> rfl
theorem x_rvLn {e} : rvL [] e = some [] := rfl
def kM3 (o : Option D) (os : Option (List D)) (e : En) (h : HB ((D → List D → (R → Prop) → Prop) × (R → En → Prop))) : Prop := match o, os with
  | some d, some ds => h.b.1 d ds fun r => h.b.2 r e
  | _, _ => False
def kM2 (r : R) (rs : List R) (e : En) (h : HB ((D → List D → (R → Prop) → Prop) × (R → En → Prop))) : Prop := kM3 (rv r e) (rvL rs e) e h
def kM1 (o : Option D) (r : R) (e : En) (h : HB (String × PTR × PX × (D → List D → (R → Prop) → Prop) × (R → En → Prop))) : Prop := match o with
  | some d => D.isTy h.b.1 d ∧ h.b.2.1 h.b.2.2.1 e fun rs e2 => kM2 r rs e2 (HB.mk h.b.2.2.2 ())
  | _ => False
def kM0 (r : R) (e : En) (h : HB (String × PTR × PX × (D → List D → (R → Prop) → Prop) × (R → En → Prop))) : Prop := hold r e fun r e => kM1 (rv r e) r e h
theorem x_meth {T p to t x e Q} : tMeth T p to t x e Q = to x e fun r e1 => kM0 r e1 (HB.mk (T, t, x, p, Q) ()) := by
  unfold tMeth kM0 kM1 kM2 kM3
  congr 1; funext r e1; congr 1; funext r e1
  cases rv r e1 with
  | none => simp
  | some d =>
    rfl
theorem x_kM0d {d e h} : kM0 (.d d) e h = kM1 (some d) (.d d) e h := rfl
theorem x_kM0o {d e h} : kM0 (.own d) e h = kM1 (some (.lst d)) (.d (.lst d)) e h := rfl
theorem x_kM0n {i e h} : kM0 (.nam i) e h = kM1 (rv (.nam i) e) (.nam i) e h := rfl
theorem x_kM1 {d r e T t x p Q} : kM1 (some d) r e (HB.mk (T, t, x, p, Q) ()) = (D.isTy T d ∧ t x e fun rs e2 => kM2 r rs e2 (HB.mk (p, Q) ())) := rfl
theorem x_kM2 {r rs e h} : kM2 r rs e h = kM3 (rv r e) (rvL rs e) e h := rfl
theorem x_kM3 {d ds e p Q} : kM3 (some d) (some ds) e (HB.mk (p, Q) ()) = p d ds fun r => Q r e := rfl
theorem x_meth0 {T p to x e Q} : tMeth0 T p to x e Q = to x e fun r e1 => opt (rv r e1) <| HB.mk (fun d => D.isTy T d ∧ p d [] fun r => Q r e1) () := by
  unfold tMeth0 opt
  congr 1; funext r e1
  cases rv r e1 <;> rfl
theorem isTy_s {l} : D.isTy "str" (.str l) = True := by simp [D.isTy]
theorem isTy_l {l} : D.isTy "list" (.lst l) = True := by simp [D.isTy]
def kU3 (o : Option (List D)) (r : R) (ds : List D) (e : En) (h : HB (PMu × (R → En → Prop))) : Prop := match o with
  | some l => h.b.1 l ds fun ds' y => h.b.2 (.d y) (mset r e ds')
  | _ => False
def kU2 (r : R) (ds : List D) (e : En) (h : HB (PMu × (R → En → Prop))) : Prop := kU3 (mget r e) r ds e h
def kU1 (r : R) (e : En) (h : HB (PMu × PTA × PX × (R → En → Prop))) : Prop := hold r e fun r e => (mget r e).isSome = true ∧ h.b.2.1 h.b.2.2.1 e fun as e2 => kU2 r as e2 (HB.mk (h.b.1, h.b.2.2.2) ())
theorem x_mut {p to t x e Q} : tMut p to t x e Q = to x e fun r e1 => kU1 r e1 (HB.mk (p, t, x, Q) ()) := by
  unfold tMut kU1 kU2 kU3
  congr 1; funext r e1; congr 1; funext r e1; congr 2; funext as e2
  cases mget r e2 <;> rfl
theorem x_kU1n {i e p t x Q} : kU1 (.nam i) e (HB.mk (p, t, x, Q) ()) = ((mget (.nam i) e).isSome = true ∧ t x e fun as e2 => kU2 (.nam i) as e2 (HB.mk (p, Q) ())) := rfl
theorem x_kU1d {d e p t x Q} : kU1 (.d d) e (HB.mk (p, t, x, Q) ()) = ((mget (.d d) e).isSome = true ∧ t x e fun as e2 => kU2 (.d d) as e2 (HB.mk (p, Q) ())) := rfl
theorem x_kU2 {r ds e h} : kU2 r ds e h = kU3 (mget r e) r ds e h := rfl
theorem x_kU3 {l r ds e p Q} : kU3 (some l) r ds e (HB.mk (p, Q) ()) = p l ds fun ds' y => Q (.d y) (mset r e ds') := rfl
def mgC : Option C → Option (List D)
  | some (.own ds) => some ds
  | _ => none
theorem mgC_own {ds} : mgC (some (.own ds)) = some ds := rfl
theorem x_mg {i e} : mget (.nam i) e = mgC e.sl[i]? := by
  show (match e.sl[i]? with | some (.own ds) => some ds | _ => none) = _
  unfold mgC
  cases e.sl[i]? with
  | none => rfl
  | some c => cases c <;> rfl
theorem x_ms {i e ds} : mset (.nam i) e ds = e.setC i (.own ds) := rfl
def kS3 (o : Option D) (lo hi : Option Int) (e : En) (h : HB (R → En → Prop)) : Prop := match o with
  | some d => pSl d lo hi fun r => h.b r e
  | _ => False
def kS2 (r : R) (lo hi : Option Int) (e : En) (h : HB (R → En → Prop)) : Prop := kS3 (rv r e) lo hi e h
def kS1 (r : R) (lo : Option Int) (e : En) (h : HB (PTO × PX × (R → En → Prop))) : Prop := h.b.1 h.b.2.1 e fun hi e3 => kS2 r lo hi e3 (HB.mk h.b.2.2 ())
def kS0 (r : R) (e : En) (h : HB (PTO × PTO × PX × (R → En → Prop))) : Prop := hold r e fun r e => h.b.1 h.b.2.2.1 e fun lo e2 => kS1 r lo e2 (HB.mk h.b.2 ())
theorem x_sl {te tl th x e Q} : tSl te tl th x e Q = te x e fun r e1 => kS0 r e1 (HB.mk (tl, th, x, Q) ()) := by
  unfold tSl kS0 kS1 kS2 kS3
  congr 1; funext r e1; congr 1; funext r e1; congr 1; funext lo e2; congr 1; funext hi e3
  cases rv r e3 <;> rfl
theorem x_kS0d {d e tl th x Q} : kS0 (.d d) e (HB.mk (tl, th, x, Q) ()) = tl x e fun lo e2 => kS1 (.d d) lo e2 (HB.mk (th, x, Q) ()) := rfl
theorem x_kS0o {d e tl th x Q} : kS0 (.own d) e (HB.mk (tl, th, x, Q) ()) = tl x e fun lo e2 => kS1 (.d (.lst d)) lo e2 (HB.mk (th, x, Q) ()) := rfl
theorem x_kS0n {i e tl th x Q} : kS0 (.nam i) e (HB.mk (tl, th, x, Q) ()) = tl x e fun lo e2 => kS1 (.nam i) lo e2 (HB.mk (th, x, Q) ()) := rfl
theorem x_kS1 {r lo e th x Q} : kS1 r lo e (HB.mk (th, x, Q) ()) = th x e fun hi e3 => kS2 r lo hi e3 (HB.mk Q ()) := rfl
theorem x_kS2 {r lo hi e h} : kS2 r lo hi e h = kS3 (rv r e) lo hi e h := rfl
theorem x_kS3 {d lo hi e Q} : kS3 (some d) lo hi e (HB.mk Q ()) = pSl d lo hi fun r => Q r e := rfl
theorem x_on {x e Q} : oNone x e Q = Q none e := rfl
def iC (d : D) (h : HB (Int → Prop)) : Prop := match d with
  | .int b => h.b b
  | _ => False
theorem iC_i {b f} : iC (.int b) (HB.mk f ()) = f b := rfl
def kOs (o : Option D) (e : En) (h : HB (Option Int → En → Prop)) : Prop := match o with
  | some (.int i) => h.b (some i) e
  | _ => False
theorem x_os {t x e Q} : oSome t x e Q = t x e fun r e1 => kOs (rv r e1) e1 (HB.mk Q ()) := by
  unfold oSome kOs
  rfl
theorem x_kOs {i e Q} : kOs (some (.int i)) e (HB.mk Q ()) = Q (some i) e := rfl
theorem x_lc {ti g tt te vs x e Q} : cLc ti g tt te vs x e Q = ti x e fun items e1 => items.length ≤ sizeLine ∧ plainC e1.sl vs = true ∧ lcH items (wipeE vs e1) (HB.mk (g, tt, te, vs, fun acc e2 => Q (.own acc) (restE vs e1 e2)) ()) := rfl
theorem x_any {te x e Q} : iAny te x e Q = te x e fun r e1 => fz r e1 fun d e2 => opt d.walk <| HB.mk (fun ds => Q ds e2) () := by
  unfold iAny opt
  congr 1; funext r e1; congr 1; funext d e2
  cases d.walk <;> rfl
theorem walk_l {ds} : D.walk (.lst ds) = some ds := rfl
theorem walk_t {ds} : D.walk (.tup ds) = some ds := rfl
theorem walk_s {s} : D.walk (.str s) = some (signs s) := rfl
theorem x_pure {p t x e Q} : iPure p t x e Q = t x e fun rs e1 => opt (rvL rs e1) <| HB.mk (fun ds => p ds fun l => Q l e1) () := by
  unfold iPure opt
  congr 1; funext rs e1
  cases rvL rs e1 <;> rfl
def sC (d : D) (h : HB (List Nat → Prop)) : Prop := match d with
  | .str s => h.b s
  | _ => False
theorem sC_s {b f} : sC (.str b) (HB.mk f ()) = f b := rfl
theorem x_rev {t x e Q} : iRevP t x e Q = t x e fun r e1 => fz r e1 fun d e2 => sC d <| HB.mk (fun s => Q (signs s).reverse e2) () := by
  unfold iRevP sC
  rfl
def kCa (ds : List D) (e : En) (h : HB (PM × (R → En → Prop))) : Prop := h.b.1 ds e.st fun c st' => h.b.2 c.toR ⟨e.sl, st'⟩
theorem x_call {m t x e Q} : tCall0 m t x e Q = t x e fun ds e1 => kCa ds e1 (HB.mk (m, Q) ()) := rfl
theorem x_kCa {m : PM} {ds e Q} : kCa ds e (HB.mk (m, Q) ()) = m ds e.st fun c st' => Q c.toR ⟨e.sl, st'⟩ := rfl
theorem toR_d {d} : C.toR (.d d) = .d d := rfl
theorem toR_o {d} : C.toR (.own d) = .own d := rfl
theorem x_gn {i d e Q} : gName i d e Q = (i < e.sl.length ∧ Q (e.setC i (.d d))) := rfl
theorem x_gnil {e Q} : gNil [] e Q = Q e := by unfold gNil; exact propext ⟨fun h => h.2, fun h => ⟨rfl, h⟩⟩
theorem x_gcons {t u d ds e Q} : gCons t u (d :: ds) e Q = t d e fun e1 => u ds e1 Q := rfl
theorem x_isi {T te x e Q} : tIsi T te x e Q = te x e fun r e1 => opt (rv r e1) <| HB.mk (fun d => opt d.tyN <| HB.mk (fun u => opt (kitB u T) <| HB.mk (fun b => Q (.d (.bl b)) e1) ()) ()) () := by
  unfold tIsi opt
  congr 1; funext r e1
  cases rv r e1 with
  | none => rfl
  | some d =>
    simp only
    cases d.tyN with
    | none => rfl
    | some u => simp only; cases kitB u T <;> rfl
/-- operators -/
theorem a_ii {i j Q} : pAdd (.int i) (.int j) Q = Q (.d (.int (i + j))) := rfl
theorem a_ss {s t Q} : pAdd (.str s) (.str t) Q = (s.length + t.length ≤ sizeLine ∧ Q (.d (.str (s ++ t)))) := rfl
theorem a_ll {s t Q} : pAdd (.lst s) (.lst t) Q = (s.length + t.length ≤ sizeLine ∧ Q (.own (s ++ t))) := rfl
theorem a_tt {s t Q} : pAdd (.tup s) (.tup t) Q = (s.length + t.length ≤ sizeLine ∧ Q (.d (.tup (s ++ t)))) := rfl
theorem a_I {C f i j Q} : pI C f (.int i) (.int j) Q = (C i j ∧ Q (.d (f i j))) := rfl
theorem a_neg {i Q} : pNeg (.int i) Q = Q (.d (.int (-i))) := rfl
theorem a_mul {i j Q} : pMul (.int i) (.int j) Q = (CMul i j ∧ Q (.d (.int (i * j)))) := rfl
theorem a_mulL {xs k Q} : pMul (.lst xs) (.int k) Q = ((-(2 ^ 63) ≤ k ∧ k < 2 ^ 63) ∧ xs.length * k.toNat ≤ sizeLine ∧ Q (.own (List.replicate k.toNat xs).flatten)) := rfl
theorem a_mulS {xs : List Nat} {k Q} : pMul (.str xs) (.int k) Q = ((-(2 ^ 63) ≤ k ∧ k < 2 ^ 63) ∧ xs.length * k.toNat ≤ 16777216 ∧ Q (.d (.str (List.replicate k.toNat xs).flatten))) := rfl
theorem a_eq {d e Q} : pEq d e Q = (d.ok 64 = true ∧ e.ok 64 = true ∧ Q (.d (.bl (D.eq d e)))) := rfl
theorem a_ne {d e Q} : pNe d e Q = (d.ok 64 = true ∧ e.ok 64 = true ∧ Q (.d (.bl (!D.eq d e)))) := rfl
theorem a_lt {i j Q} : pLt (.int i) (.int j) Q = Q (.d (.bl (decide (i < j)))) := rfl
theorem a_le {i j Q} : pLe (.int i) (.int j) Q = Q (.d (.bl (decide (i ≤ j)))) := rfl
theorem a_gt {i j Q} : pGt (.int i) (.int j) Q = Q (.d (.bl (decide (j < i)))) := rfl
theorem a_ge {i j Q} : pGe (.int i) (.int j) Q = Q (.d (.bl (decide (j ≤ i)))) := rfl
theorem a_ltS {i j Q} : pLt (.str i) (.str j) Q = Q (.d (.bl (decide (i < j)))) := rfl
theorem a_leS {i j Q} : pLe (.str i) (.str j) Q = Q (.d (.bl (!decide (j < i)))) := rfl
theorem a_inS {c l Q} : pIn false (.str [c]) (.str l) Q = Q (.d (.bl (decide (c ∈ l)))) := rfl
theorem a_ninS {c l Q} : pIn true (.str [c]) (.str l) Q = Q (.d (.bl (!decide (c ∈ l)))) := rfl
theorem a_inL {d l Q} : pIn false d (.lst l) Q = (d.ok 64 = true ∧ D.okL l 63 = true ∧ Q (.d (.bl (l.any fun z => D.eq z d)))) := rfl
theorem a_ninL {d l Q} : pIn true d (.lst l) Q = (d.ok 64 = true ∧ D.okL l 63 = true ∧ Q (.d (.bl (!l.any fun z => D.eq z d)))) := rfl
theorem a_inT {d l Q} : pIn false d (.tup l) Q = (d.flat = true ∧ l.all D.flat = true ∧ Q (.d (.bl (l.any fun z => D.eq z d)))) := rfl
theorem a_ninT {d l Q} : pIn true d (.tup l) Q = (d.flat = true ∧ l.all D.flat = true ∧ Q (.d (.bl (!l.any fun z => D.eq z d)))) := rfl
theorem a_ixL {l i Q} : pIx (.lst l) (.int i) Q = (opt (atI l i) <| HB.mk (fun y => Q (.d y)) ()) := by
  show (match atI l i with | some y => Q (.d y) | none => False) = _
  unfold opt
  cases atI l i <;> rfl
theorem a_ixT {l i Q} : pIx (.tup l) (.int i) Q = (opt (atI l i) <| HB.mk (fun y => Q (.d y)) ()) := by
  show (match atI l i with | some y => Q (.d y) | none => False) = _
  unfold opt
  cases atI l i <;> rfl
theorem a_ixS {l i Q} : pIx (.str l) (.int i) Q = (opt (atI l i) <| HB.mk (fun c => Q (.d (.str [c]))) ()) := by
  show (match atI l i with | some y => Q (.d (.str [y])) | none => False) = _
  unfold opt
  cases atI l i <;> rfl
theorem a_ixR {n i Q} : pIx (.scr n) (.int i) Q = ((0 ≤ i ∧ i < n) ∧ ∀ z, Q (.d (.int z))) := rfl
theorem a_ixB {i Q} : pIx .box (.int i) Q = ((i = 0 ∨ i = 1) ∧ ∀ z, Q (.d (.int z))) := rfl
theorem a_slL {l lo hi Q} : pSl (.lst l) lo hi Q = Q (.own (cut l lo hi)) := rfl
theorem a_slT {l lo hi Q} : pSl (.tup l) lo hi Q = Q (.d (.tup (cut l lo hi))) := rfl
theorem a_slS {l lo hi Q} : pSl (.str l) lo hi Q = Q (.d (.str (cut l lo hi))) := rfl
theorem a_lenS {s Q} : pLen [.str s] Q = Q (.d (.int s.length)) := rfl
theorem a_lenL {s Q} : pLen [.lst s] Q = Q (.d (.int s.length)) := rfl
theorem a_lenT {s Q} : pLen [.tup s] Q = Q (.d (.int s.length)) := rfl
theorem a_lenR {n Q} : pLen [.scr n] Q = Q (.d (.int n)) := rfl
theorem a_join {s x Q} : pJoin (.str s) [x] Q = (opt (strL x.items) <| HB.mk (fun r => (r.map List.length).sum + r.length * s.length ≤ 16777216 ∧ Q (.d (.str (joinN s r)))) ()) := by
  show (match strL x.items with | some r => _ | none => False) = _
  unfold opt
  cases strL x.items <;> rfl
theorem items_l {l} : D.items (.lst l) = l := rfl
theorem items_t {l} : D.items (.tup l) = l := rfl
theorem a_ixof {l c Q} : pIndexS (.str l) [.str [c]] Q = (c ∈ l ∧ Q (.d (.int (ixOf c l)))) := rfl
theorem a_ixofL {l y Q} : pIndexL (.lst l) [y] Q = (y.ok 64 = true ∧ D.okL l 63 = true ∧ (l.any fun z => D.eq z y) = true ∧ Q (.d (.int (ixD y l)))) := rfl
theorem a_rng1 {j Q} : pRng1 [.int j] Q = ((-(2 ^ 62) ≤ j ∧ j < 2 ^ 62) ∧ Q (rngI 0 j.toNat)) := rfl
theorem a_rng2 {i j Q} : pRng2 [.int i, .int j] Q = ((-(2 ^ 62) ≤ i ∧ i < 2 ^ 62 ∧ -(2 ^ 62) ≤ j ∧ j < 2 ^ 62) ∧ Q (rngI i (j - i).toNat)) := rfl
theorem a_min2 {i j Q} : pMin2 [.int i, .int j] Q = Q (.d (.int (min i j))) := by
  show Q (.d (.int (if j < i then j else i))) = _
  congr 3; rw [Int.min_def]; split <;> split <;> omega
theorem a_max2 {i j Q} : pMax2 [.int i, .int j] Q = Q (.d (.int (max i j))) := by
  show Q (.d (.int (if j > i then j else i))) = _
  congr 3; rw [Int.max_def]; split <;> split <;> omega
theorem a_lstS {s Q} : pList [.str s] Q = Q (.own (signs s)) := rfl
theorem a_lstL {s Q} : pList [.lst s] Q = Q (.own s) := rfl
theorem a_lstT {s Q} : pList [.tup s] Q = Q (.own s) := rfl
theorem a_int {s Q} : pInt [.int s] Q = Q (.d (.int s)) := rfl
theorem a_intB {s Q} : pInt [.bl s] Q = Q (.d (.int (if s then 1 else 0))) := rfl
theorem a_isN {neg d Q} : pIsN neg d .non Q = Q (.d (.bl (if neg then !d.isNon else d.isNon))) := rfl
def popAtH (ds as : List D) (h : HB (List D → D → Prop)) : Prop := mPopAt ds as h.b
theorem x_popAt {ds as K} : mPopAt ds as K = popAtH ds as (HB.mk K ()) := rfl
def allH (ds : List D) (h : HB (R → Prop)) : Prop := pAll [.lst ds] h.b
theorem x_all {ds Q} : pAll [.lst ds] Q = allH ds (HB.mk Q ()) := rfl
def anyH (ds : List D) (h : HB (R → Prop)) : Prop := pAny [.lst ds] h.b
theorem x_anyB {ds Q} : pAny [.lst ds] Q = anyH ds (HB.mk Q ()) := rfl
theorem a_isB {neg a b Q} : pIsN neg (.bl a) (.bl b) Q = Q (.d (.bl (if neg then !decide (a = b) else decide (a = b)))) := rfl
theorem m_app {ds y K} : mAppend ds [y] K = (ds.length < sizeLine ∧ K (ds ++ [y]) .non) := rfl
theorem a_pop {ds K} : mPop ds [] K = (opt ds[ds.length - 1]? <| HB.mk (fun y => K ds.dropLast y) ()) := by
  unfold mPop opt
  simp only
  cases ds[ds.length - 1]? <;> rfl
/-- data -/
theorem ok_s {s n} : D.ok (.str s) n = true := rfl
theorem ok_i {s n} : D.ok (.int s) n = true := rfl
theorem ok_b {s n} : D.ok (.bl s) n = true := rfl
theorem ok_n {n} : D.ok .non n = true := rfl
theorem ok_l {ds n} : D.ok (.lst ds) (n + 1) = D.okL ds n := rfl
theorem ok_t {ds n} : D.ok (.tup ds) (n + 1) = D.okL ds n := rfl
theorem okL_n {n} : D.okL [] n = true := rfl
theorem okL_c {d ds n} : D.okL (d :: ds) n = (d.ok n && D.okL ds n) := rfl
theorem e_ss {x y} : D.eq (.str x) (.str y) = decide (x = y) := by simp only [D.eq]; rw [Bool.eq_iff_iff]; simp
theorem e_ii {x y} : D.eq (.int x) (.int y) = decide (x = y) := by simp only [D.eq]; rw [Bool.eq_iff_iff]; simp
theorem e_bb {x y} : D.eq (.bl x) (.bl y) = decide (x = y) := by cases x <;> cases y <;> rfl
theorem e_ll {x y} : D.eq (.lst x) (.lst y) = D.eqL x y := by simp only [D.eq]
theorem e_tt {x y} : D.eq (.tup x) (.tup y) = D.eqL x y := by simp only [D.eq]
theorem eL_nn : D.eqL [] [] = true := by simp only [D.eqL]
theorem eL_cc {a x b y} : D.eqL (a :: x) (b :: y) = (D.eq a b && D.eqL x y) := by simp only [D.eqL]
theorem eL_nc {b y} : D.eqL [] (b :: y) = false := by simp only [D.eqL]
theorem eL_cn {b y} : D.eqL (b :: y) [] = false := by simp only [D.eqL]
theorem ty_s {s} : D.tyN (.str s) = some "str" := rfl
theorem ty_i {s} : D.tyN (.int s) = some "int" := rfl
theorem ty_l {s} : D.tyN (.lst s) = some "list" := rfl
theorem ty_b {s} : D.tyN (.bl s) = some "bool" := rfl
theorem sline : (sizeLine : Nat) = 16777216 := sizeLine_eq
end Pu
set_option maxRecDepth 100000
set_option maxHeartbeats 4000000
namespace Pu
open PySem L2
theorem forH_inv {g : PTG} {tb : PTS} {x : PX} {P : PEn} (I : List D → En → Prop) {ds : List D} {e : En} (h0 : I ds e) (hd : ∀ e, I [] e → P.nx e) (h : ∀ d r e, I (d :: r) e → ∀ N : En → Prop, (∀ e', I r e' → N e') → g d e fun e' => tb x { P with nx := N, ct := N, bk := P.nx } e') :
    forH ds e (HB.mk (g, tb, x, P) ()) := forR_inv I h hd ds e h0
/-- over a range from i on: the turns done -/
theorem forH_rng {g : PTG} {tb : PTS} {x : PX} {P : PEn} (lo : Int) (n : Nat) (I : Nat → En → Prop) {e : En} (h0 : I 0 e) (hd : ∀ e, I n e → P.nx e) (h : ∀ j e, j < n → I j e → ∀ N : En → Prop, (∀ e', I (j + 1) e' → N e') → g (.int (lo + j)) e fun e' => tb x { P with nx := N, ct := N, bk := P.nx } e') :
    forH (rngI lo n) e (HB.mk (g, tb, x, P) ()) := by
  refine forH_inv (fun rest e => ∃ j, j ≤ n ∧ rest = rngI (lo + j) (n - j) ∧ I j e) ⟨0, by omega, by simp, h0⟩ ?_ ?_
  · rintro e ⟨j, h1, h2, h3⟩
    have := congrArg List.length h2
    rw [rngI_length] at this
    simp at this
    have e0 : j = n := by omega
    subst e0
    exact hd e h3
  · rintro d r e ⟨j, h1, h2, h3⟩ N hN
    have hl := congrArg List.length h2
    rw [rngI_length] at hl
    simp at hl
    obtain ⟨z, hz⟩ : ∃ z, n - j = z + 1 := ⟨n - j - 1, by omega⟩
    rw [hz, rngI_succ] at h2
    cases h2
    exact h j e (by omega) h3 N fun e' h' => hN e' ⟨j + 1, by omega, by rw [show n - (j + 1) = z by omega]; congr 1; push_cast; omega, h'⟩
/-- over a mapped list -/
theorem forH_map {α : Type} (f : α → D) {g : PTG} {tb : PTS} {x : PX} {P : PEn} (w : List α) (I : List α → List α → En → Prop) {e : En} (h0 : I [] w e) (hd : ∀ e, I w [] e → P.nx e) (h : ∀ pre c suf e, pre ++ c :: suf = w → I pre (c :: suf) e → ∀ N : En → Prop, (∀ e', I (pre ++ [c]) suf e' → N e') → g (f c) e fun e' => tb x { P with nx := N, ct := N, bk := P.nx } e') :
    forH (w.map f) e (HB.mk (g, tb, x, P) ()) := by
  refine forH_inv (fun rest e => ∃ pre suf, pre ++ suf = w ∧ rest = suf.map f ∧ I pre suf e) ⟨[], w, rfl, rfl, h0⟩ ?_ ?_
  · rintro e ⟨pre, suf, h1, h2, h3⟩
    cases suf with
    | nil => rw [List.append_nil] at h1; subst h1; exact hd e h3
    | cons c suf => cases h2
  · rintro d r e ⟨pre, suf, h1, h2, h3⟩ N hN
    cases suf with
    | nil => cases h2
    | cons c suf =>
      cases h2
      exact h pre c suf e h1 h3 N fun e' h' => hN e' ⟨pre ++ [c], suf, by rw [← h1]; simp, rfl, h'⟩
theorem least_nat {R : Nat → Prop} (h : ∃ n, R n) : ∃ n, R n ∧ ∀ k, R k → n ≤ k := by
  obtain ⟨n, hn⟩ := h
  induction n using Nat.strongRecOn with
  | _ n ih =>
    by_cases z : ∃ k, k < n ∧ R k
    · obtain ⟨k, h1, h2⟩ := z
      exact ih k h1 h2
    · exact ⟨n, hn, fun k hk => Nat.le_of_not_lt fun hl => z ⟨k, hl, hk⟩⟩
theorem wh_on {c : PTT} {tb : PTS} {x : PX} {P : PEn} {e : En} {α : Type} (st : α → En) (W : α → Prop) (μ : α → Nat) (a0 : α) (he : e = st a0) (h0 : W a0)
    (h : ∀ a, W a → ∀ N : En → Prop, (∀ a', W a' → μ a' < μ a → N (st a')) → c x (st a) fun b e1 => br b (HB.mk (tb x { P with nx := N, ct := N, bk := P.nx } e1, P.nx e1) ())) : whH e (HB.mk (c, tb, x, P) ()) := by
  classical
  let R : En → Nat → Prop := fun e n => ∃ a, e = st a ∧ W a ∧ μ a = n
  let m : En → Nat := fun e => if h : ∃ n, R e n then Classical.choose (least_nat h) else 0
  have key : ∀ e, (∃ n, R e n) → R e (m e) ∧ ∀ k, R e k → m e ≤ k := fun e hh => by
    have z : m e = Classical.choose (least_nat hh) := dif_pos hh
    rw [z]
    exact Classical.choose_spec (least_nat hh)
  refine ⟨fun e => ∃ a, e = st a ∧ W a, m, ⟨a0, he, h0⟩, ?_⟩
  intro e ⟨a1, h1, h2⟩
  obtain ⟨⟨a, g1, g2, g3⟩, _⟩ := key e ⟨_, a1, h1, h2, rfl⟩
  subst g1
  exact h a g2 (fun e' => (∃ a, e' = st a ∧ W a) ∧ m e' < m (st a)) fun a' w' l' => ⟨⟨a', rfl, w'⟩, Nat.lt_of_le_of_lt ((key (st a') ⟨_, a', rfl, w', rfl⟩).2 _ ⟨a', rfl, w', rfl⟩) (by rw [← g3]; exact l')⟩
theorem at_head {α : Type} {l : List α} {a : α} {f : α → Prop} (h : l.head? = some a) (q : f a) : opt (atI l 0) (HB.mk f ()) := by
  refine opt_of ?_ q
  cases l with
  | nil => cases h
  | cons b l => cases h; unfold atI ixN; simp
theorem lcH_rel {g : PTG} {te : PTE} {vs : List Nat} {e : En} {Q : List D → En → Prop} {ds : List D} (R : D → D → Prop) (h : ∀ d ∈ ds, ∀ K : D → En → Prop, (∀ y, R d y → K y e) → g d e fun e1 => te noX e1 fun r e3 => fz r e3 fun y e4 => K y (wipeE vs e4)) (q : ∀ ys, All2 R ds ys → Q ys e) : lcH ds e (HB.mk (g, cYes, te, vs, Q) ()) :=
  lcR_rel R ds [] h (by simpa using q)
theorem x_ite {b : Bool} {p q : Prop} : (if b = true then p else q) = br b (HB.mk (p, q) ()) := rfl
theorem x_gtup {n t ds e Q} : gTup n t (.tup ds) e Q = (ds.length = n ∧ t ds e Q) := rfl
theorem x_yes {x e Q} : cYes x e Q = Q true e := rfl
theorem strL_signs (w : List Nat) : strL (signs w) = some (w.map fun c => [c]) := by
  have e : signs w = (w.map fun c => [c]).map D.str := by unfold signs; rw [List.map_map]; rfl
  rw [e, strL_map]
theorem len_signs {w : List Nat} (h : w.length ≤ 16777216) : ((w.map fun c => [c]).map List.length).sum + (w.map fun c => [c]).length * ([] : List Nat).length ≤ 16777216 := by
  have : ((w.map fun c => [c]).map List.length) = List.replicate w.length 1 := by
    rw [List.map_map, List.eq_replicate_iff]
    refine ⟨by simp, fun b hb => ?_⟩
    obtain ⟨a, _, rfl⟩ := List.mem_map.mp hb
    rfl
  rw [this, List.sum_replicate_nat]
  simp
  exact h
theorem len_signs' {w : List Nat} (h : w.length ≤ 16777216) : ((w.map fun c => [c]).map List.length).sum + (w.map fun c => [c]).length * 0 ≤ 16777216 := len_signs h
theorem blL_true : ∀ {ds : List D}, (∀ d ∈ ds, d = .bl true) → blL ds = some (List.replicate ds.length true)
  | [], _ => rfl
  | d :: ds, h => by
    rw [h d (by simp)]
    simp only [blL]
    rw [blL_true fun d hd => h d (List.mem_cons_of_mem _ hd)]
    rfl
theorem pAll_true {ds : List D} {Q : R → Prop} (h : ∀ d ∈ ds, d = .bl true) (q : Q (.d (.bl true))) : pAll [.lst ds] Q := by
  unfold pAll
  simp only
  rw [blL_true h]
  have : (List.replicate ds.length true).all id = true := by simp
  simp only [this]
  exact q
theorem ixN_nat {n : Nat} {i : Int} (h0 : 0 ≤ i) (h1 : i < n) : ixN n i = some i.toNat := by
  unfold ixN
  rw [if_pos h0, if_pos h1]
theorem atI_ok {α : Type} {l : List α} {i : Int} (h0 : 0 ≤ i) (h1 : i < l.length) : ∃ h : i.toNat < l.length, atI l i = some l[i.toNat] := by
  have h : i.toNat < l.length := by omega
  refine ⟨h, ?_⟩
  unfold atI
  rw [ixN_nat h0 h1]
  exact List.getElem?_eq_getElem h
theorem sIx_k (n d k : Nat) : HT.sIx n d (some (k : Int)) = min k n := HT.sIx_nat n d k
theorem cut_take {α : Type} (xs : List α) (k : Nat) : cut xs none (some (k : Int)) = xs.take k := by
  unfold cut
  rw [sIx_k]
  have e1 : HT.sIx xs.length 0 none = 0 := rfl
  rw [e1, List.drop_zero, Nat.sub_zero, List.take_eq_take_iff]
  omega
theorem cut_drop {α : Type} (xs : List α) (k : Nat) : cut xs (some (k : Int)) none = xs.drop k := by
  unfold cut
  rw [sIx_k]
  have e2 : HT.sIx xs.length xs.length none = xs.length := rfl
  rw [e2]
  rw [List.take_of_length_le (by simp)]
  by_cases h : k ≤ xs.length
  · rw [Nat.min_eq_left h]
  · rw [Nat.min_eq_right (by omega), List.drop_length, List.drop_of_length_le (by omega)]
theorem cut_mid {α : Type} (xs : List α) (i j : Nat) : cut xs (some (i : Int)) (some (j : Int)) = (xs.take j).drop i := by
  unfold cut
  rw [sIx_k, sIx_k, List.drop_take]
  by_cases h : i ≤ xs.length
  · rw [Nat.min_eq_left h, List.take_eq_take_iff, List.length_drop]
    omega
  · rw [Nat.min_eq_right (a := i) (by omega), List.drop_length, List.drop_of_length_le (i := i) (by omega)]
    simp
theorem a_repr {d Q} : pRepr [d] Q = (d.ok 64 = true ∧ d.rok = true ∧ d.rlen ≤ 16777216 ∧ Q (.d (.str (shw d)))) := rfl
def minH (ds : List D) (h : HB (R → Prop)) : Prop := pMin1 [.lst ds] h.b
theorem x_min1 {ds Q} : pMin1 [.lst ds] Q = minH ds (HB.mk Q ()) := rfl
theorem a_min2S {x y Q} : pMin2S [.str x, .str y] Q = Q (.d (.str (if y < x then y else x))) := rfl
end Pu
set_option maxRecDepth 100000
set_option maxHeartbeats 4000000
namespace Pu
open PySem L2
theorem x_dict0 {x e Q} : tDict0 x e Q = Q (.dK []) e := rfl
theorem x_aK {i d e Q} : asgR i (.dK d) e Q = Q (e.setC i (.dK d)) := rfl
def kgC : Option C → Option (List (Key × D))
  | some (.dK ds) => some ds
  | _ => none
theorem kgC_dK {ds} : kgC (some (.dK ds)) = some ds := rfl
theorem x_kg {i e} : kget (.nam i) e = kgC e.sl[i]? := by
  show (match e.sl[i]? with | some (.dK ds) => some ds | _ => none) = _
  unfold kgC
  cases e.sl[i]? with
  | none => rfl
  | some c => cases c <;> rfl
theorem x_kgRn {i e} : kgetR (.nam i) e = kget (.nam i) e := rfl
theorem x_kgRf {ks ds e} : kgetR (.d (.dck ks ds)) e = some (ks.zip ds) := rfl
theorem x_zips {α β : Type} {l : List (α × β)} : (l.map Prod.fst).zip (l.map Prod.snd) = l := zip_split l
theorem x_ks {i e ds} : kset (.nam i) e ds = e.setC i (.dK ds) := rfl
/-- keys: ints, texts -/
def kI (i : Int) : Key := .inl i
def kS (s : List Nat) : Key := .inr ⟨s.toArray⟩
theorem key_i {i} : keyD (.int i) = some (kI i) := rfl
theorem key_s {s} : keyD (.str s) = some (kS s) := rfl
theorem kI_eq {i j} : (kI i = kI j) = (i = j) := by unfold kI; simp
theorem kS_eq {i j} : (kS i = kS j) = (i = j) := by unfold kS; simp
theorem x_dg {to ti x e Q} : tDG to ti x e Q = to x e fun r e1 => hold r e1 fun r e1 => ti x e1 fun ri e2 => opt (kgetR r e2) <| HB.mk (fun kvs => opt (rv ri e2) <| HB.mk (fun kd => opt (keyD kd) <| HB.mk (fun k => opt (getK kvs k) <| HB.mk (fun d => Q (.d d) e2) ()) ()) ()) () := by
  unfold tDG opt
  congr 1; funext r e1; congr 1; funext r e1; congr 1; funext ri e2
  cases kgetR r e2 with
  | none => rfl
  | some kvs =>
    simp only
    cases rv ri e2 with
    | none => rfl
    | some kd =>
      simp only
      cases keyD kd with
      | none => rfl
      | some k => simp only; cases getK kvs k <;> rfl
theorem x_di {neg ti to x e Q} : tDI neg ti to x e Q = ti x e fun ri e1 => hold ri e1 fun ri e1 => to x e1 fun r e2 => opt (kgetR r e2) <| HB.mk (fun kvs => opt (rv ri e2) <| HB.mk (fun kd => opt (keyD kd) <| HB.mk (fun k => Q (.d (.bl (if neg then !(getK kvs k).isSome else (getK kvs k).isSome))) e2) ()) ()) () := by
  unfold tDI opt
  congr 1; funext r e1; congr 1; funext r e1; congr 1; funext ri e2
  cases kgetR ri e2 with
  | none => rfl
  | some kvs =>
    simp only
    cases rv r e2 with
    | none => rfl
    | some kd =>
      simp only
      cases keyD kd <;> rfl
theorem x_dpt {te to ti x P e} : sDPt te to ti x P e = te x e fun r0 e1 => fz r0 e1 fun dv e2 => to x e2 fun ro e3 => hold ro e3 fun ro e3 => ti x e3 fun ri e4 => opt (kget ro e4) <| HB.mk (fun kvs => opt (rv ri e4) <| HB.mk (fun kd => opt (keyD kd) <| HB.mk (fun k => kvs.length < sizeLine ∧ P.nx (kset ro e4 (setK kvs k dv))) ()) ()) () := by
  unfold sDPt opt
  congr 1; funext r e1; congr 1; funext r e1; congr 1; funext ri e2; congr 1; funext ri e2; congr 1; funext ri2 e4
  cases kget ri e4 with
  | none => rfl
  | some kvs =>
    simp only
    cases rv ri2 e4 with
    | none => rfl
    | some kd =>
      simp only
      cases keyD kd <;> rfl
def oneR (rs : List R) (h : HB (R → Prop)) : Prop := match rs with
  | [r] => h.b r
  | _ => False
theorem oneR_1 {r f} : oneR [r] (HB.mk f ()) = f r := rfl
theorem x_enum {t x e Q} : iEnumP t x e Q = t x e fun rs e1 => oneR rs <| HB.mk (fun r => fz r e1 fun d e2 => opt d.walkE <| HB.mk (fun ds => Q (enumF 0 ds) e2) ()) () := by
  unfold iEnumP opt oneR
  congr 1; funext rs e1
  match rs with
  | [] => rfl
  | [r] =>
    show fz r e1 _ = fz r e1 _
    congr 1; funext d e2
    cases d.walkE <;> rfl
  | _ :: _ :: _ => rfl
theorem walkE_l {ds} : D.walkE (.lst ds) = some ds := rfl
theorem walkE_t {ds} : D.walkE (.tup ds) = some ds := rfl
theorem walkE_s {s} : D.walkE (.str s) = some (signs s) := rfl
theorem a_backL {ds Q} : pBack (.lst ds) Q = Q (.own ds.reverse) := rfl
theorem a_backS {s Q} : pBack (.str s) Q = Q (.d (.str s.reverse)) := rfl
theorem a_backT {ds Q} : pBack (.tup ds) Q = Q (.d (.tup ds.reverse)) := rfl
theorem x_never {x P e} : sNever x P e = False := rfl
theorem ty_t {s} : D.tyN (.tup s) = some "tuple" := rfl
theorem a_tupL {s Q} : pTuple [.lst s] Q = Q (.d (.tup s)) := rfl
theorem a_tupT {s Q} : pTuple [.tup s] Q = Q (.d (.tup s)) := rfl
def sortH (ds : List D) (h : HB (R → Prop)) : Prop := pSortT [.lst ds] h.b
theorem x_sort {ds Q} : pSortT [.lst ds] Q = sortH ds (HB.mk Q ()) := rfl
def sortSH (w : List Nat) (h : HB (R → Prop)) : Prop := pSortT [.str w] h.b
theorem x_sortS {w Q} : pSortT [.str w] Q = sortSH w (HB.mk Q ()) := rfl
end Pu
set_option maxRecDepth 100000
set_option maxHeartbeats 4000000
namespace Pu
open PySem L2
theorem m_ext {ds zs K} : mExtend ds [.lst zs] K = (ds.length + zs.length ≤ sizeLine ∧ K (ds ++ zs) .non) := rfl
theorem m_rev {ds K} : mReverse ds [] K = K ds.reverse .non := rfl
theorem All2.get {α β : Type} {R : α → β → Prop} : ∀ {as : List α} {bs : List β} {i : Nat} {a : α}, All2 R as bs → as[i]? = some a → ∃ b, bs[i]? = some b ∧ R a b
  | _, _, 0, _, .cons h t, e => by simp at e; subst e; exact ⟨_, rfl, h⟩
  | _, _, i + 1, _, .cons h t, e => by
    obtain ⟨b, h1, h2⟩ := All2.get (i := i) t (by simpa using e)
    exact ⟨b, by simpa using h1, h2⟩
/-- comprehensions over mapped lists -/
theorem lcR_fm {α : Type} {g : PTG} {tt : PTT} {te : PTE} {vs : List Nat} {e : En} {Q : List D → En → Prop} (g0 : α → D) (p : α → Bool) (f : α → D) :
    ∀ (l : List α) (acc : List D), (∀ a ∈ l, ∀ K : Option D → En → Prop, K (if p a = true then some (f a) else none) e → g (g0 a) e fun e1 => tt noX e1 fun b e2 => if b = true then te noX e2 fun r e3 => fz r e3 fun y e4 => K (some y) (wipeE vs e4) else K none (wipeE vs e2)) →
      Q (acc ++ (l.filter p).map f) e → lcR g tt te vs (l.map g0) acc e Q
  | [], acc, _, k => by rw [List.filter_nil, List.map_nil, List.append_nil] at k; exact k
  | a :: l, acc, h, k => by
    refine h a (by simp) (fun o e' => match o with | some y => lcR g tt te vs (l.map g0) (acc ++ [y]) e' Q | none => lcR g tt te vs (l.map g0) acc e' Q) ?_
    by_cases hp : p a = true
    · rw [if_pos hp]
      refine lcR_fm g0 p f l (acc ++ [f a]) (fun d' hd => h d' (List.mem_cons_of_mem _ hd)) ?_
      rw [List.filter_cons_of_pos hp, List.map_cons] at k
      rw [List.append_assoc]
      exact k
    · rw [if_neg hp]
      refine lcR_fm g0 p f l acc (fun d' hd => h d' (List.mem_cons_of_mem _ hd)) ?_
      rw [List.filter_cons_of_neg hp] at k
      exact k
theorem lcH_mm {α : Type} {g : PTG} {te : PTE} {vs : List Nat} {e : En} {Q : List D → En → Prop} {l : List α} {g0 : α → D} (f : α → D) (h : ∀ a ∈ l, ∀ K : D → En → Prop, K (f a) e → g (g0 a) e fun e1 => te noX e1 fun r e3 => fz r e3 fun y e4 => K y (wipeE vs e4)) (q : Q (l.map f) e) : lcH (l.map g0) e (HB.mk (g, cYes, te, vs, Q) ()) := by
  refine lcR_fm g0 (fun _ => true) f l [] (fun a ha K k => ?_) ?_
  · have k : K (some (f a)) e := k
    exact h a ha (fun y e' => K (some y) e') k
  · have : l.filter (fun _ => true) = l := List.filter_eq_self.mpr fun _ _ => rfl
    rw [this]
    simpa using q
end Pu
set_option maxRecDepth 100000
set_option maxHeartbeats 4000000
namespace Pu
open PySem L2
def sortPH (d : D) (h : HB (R → Prop)) : Prop := pSortP [d] h.b
theorem x_sortP {d Q} : pSortP [d] Q = sortPH d (HB.mk Q ()) := rfl
end Pu
set_option maxRecDepth 100000
set_option maxHeartbeats 4000000
namespace Pu
open PySem L2
theorem a_slR {n lo hi Q} : pSl (.scr n) lo hi Q = ∀ ns : List Int, ns.length = (cut (List.range n) lo hi).length → Q (.own (ns.map D.int)) := rfl
def twoR (rs : List R) (h : HB (R → R → Prop)) : Prop := match rs with
  | [r1, r2] => h.b r1 r2
  | _ => False
theorem twoR_2 {r1 r2 f} : twoR [r1, r2] (HB.mk f ()) = f r1 r2 := rfl
def sideH (d : D) (h : HB (List D → Prop)) : Prop := match d.side with
  | some (_, ds) => h.b ds
  | none => False
theorem side_l {ds f} : sideH (.lst ds) (HB.mk f ()) = f ds := rfl
theorem side_t {ds f} : sideH (.tup ds) (HB.mk f ()) = f ds := rfl
theorem x_zip {t x e Q} : iZipP t x e Q = t x e fun rs e1 => twoR rs <| HB.mk (fun r1 r2 => fz r1 e1 fun d1 e2 => fz r2 e2 fun d2 e3 => sideH d1 <| HB.mk (fun ds => sideH d2 <| HB.mk (fun es => (∀ d ∈ ds, isPr d = false) ∧ Q (zipF ds es) e3) ()) ()) () := by
  unfold iZipP twoR sideH
  congr 1; funext rs e1
  match rs with
  | [] => rfl
  | [r] => rfl
  | [r1, r2] =>
    show fz r1 e1 _ = fz r1 e1 _
    congr 1; funext d1 e2
    congr 1; funext d2 e3
    cases d1.side with
    | none => cases d2.side <;> rfl
    | some p => cases d2.side <;> rfl
  | _ :: _ :: _ :: _ => rfl
def sumH (ds : List D) (h : HB (R → Prop)) : Prop := pSum [.lst ds] h.b
theorem x_sum {ds Q} : pSum [.lst ds] Q = sumH ds (HB.mk Q ()) := rfl
theorem a_count {l c Q} : pCount (.str l) [.str [c]] Q = Q (.d (.int (l.count c : Nat))) := rfl
def augC (c : C) (h : HB (Nat × PTE × PX × PEn × En)) : Prop := match c with
  | .d (.int a) => h.b.2.1 h.b.2.2.1 h.b.2.2.2.2 fun r e1 => match rv r e1 with
    | some (.int b) => h.b.1 < e1.sl.length ∧ h.b.2.2.2.1.nx (e1.setC h.b.1 (.d (.int (a + b))))
    | _ => False
  | _ => False
theorem augC_i {i te x P e a} : augC (.d (.int a)) (HB.mk (i, te, x, P, e) ()) = te x e fun r e1 => opt (rv r e1) <| HB.mk (fun d => iC d <| HB.mk (fun b => i < e1.sl.length ∧ P.nx (e1.setC i (.d (.int (a + b))))) ()) () := by
  show te x e _ = te x e _
  congr 1; funext r e1
  unfold opt iC
  cases rv r e1 with
  | none => rfl
  | some d => cases d <;> rfl
theorem x_aug {i te x P e} : sAug i te x P e = (opt e.sl[i]? <| HB.mk (fun c => augC c (HB.mk (i, te, x, P, e) ())) ()) := by
  unfold sAug opt augC
  cases e.sl[i]? with
  | none => rfl
  | some c =>
    cases c with
    | d d => cases d <;> rfl
    | _ => rfl
end Pu
set_option maxRecDepth 100000
set_option maxHeartbeats 4000000
namespace Pu
open PySem L2
def twoD (ds : List D) (h : HB (D → D → Prop)) : Prop := match ds with
  | [d1, d2] => h.b d1 d2
  | _ => False
theorem twoD_2 {d1 d2 f} : twoD [d1, d2] (HB.mk f ()) = f d1 d2 := rfl
theorem x_par {i j t x P e} : sPar i j t x P e = t x e fun ds e1 => twoD ds <| HB.mk (fun d1 d2 => i < e1.sl.length ∧ j < e1.sl.length ∧ P.nx ((e1.setC i (.d d1)).setC j (.d d2))) () := by
  unfold sPar twoD
  rfl
theorem x_raise {c n t x D e} : sRaise c n t x D e = t x e fun ds e1 => ds.length = n ∧ x ⟨c, ds⟩ e1.st := rfl
theorem x_callX {m t x e Q} : tCallX m t x e Q = t x e fun ds e1 => m ds e1.st (fun c st' => Q c.toR ⟨e1.sl, st'⟩) x := rfl
/-- what the clause does with an exception -/
def trH (n i : Nat) (fl : Nat → List Str) (cb : Nat → Bool) (h : HB (PTS × PEn)) : PX := fun ex st => cb ex.c = true ∧ h.b.1 noX { nx := fun e' => h.b.2.nx (wipeE [i] e'), rt := h.b.2.rt, bk := fun e' => h.b.2.bk (wipeE [i] e'), ct := fun e' => h.b.2.ct (wipeE [i] e') } ⟨(List.replicate n C.un).set i (.d (.exc ex.c (fl ex.c) ex.ds)), st⟩
def noOwn (l : List C) : Prop := (l.all fun c => !c.isOwn) = true
theorem ow_nil : noOwn [] = True := by simp [noOwn]
theorem ow_un {l} : noOwn (.un :: l) = noOwn l := by simp [noOwn, C.isOwn]
theorem ow_d {d l} : noOwn (.d d :: l) = noOwn l := by simp [noOwn, C.isOwn]
theorem x_try {n i fl cb tb ts x D e} : sTry n i fl cb tb ts x D e = (noOwn e.sl ∧ i < n ∧ tb (trH n i fl cb (HB.mk (ts, D) ())) D e) := rfl
theorem x_subA {to ti dv x e Q} : subA to ti dv x e Q = to x e fun ro e3 => hold ro e3 fun ro e3 => ti x e3 fun ri e4 => opt (rv ri e4) <| HB.mk (fun d => iC d <| HB.mk (fun i => setAt ro dv i e4 Q) ()) () := by
  unfold subA opt iC
  congr 1; funext ro e3; congr 1; funext ro e3; congr 1; funext ri e4
  cases rv ri e4 with
  | none => rfl
  | some d => cases d <;> rfl
theorem x_setN {k dv i e Q} : setAt (.nam k) dv i e Q = (opt (mget (.nam k) e) <| HB.mk (fun ds => opt (ixN ds.length i) <| HB.mk (fun j => Q (mset (.nam k) e (ds.set j dv))) ()) ()) := by
  unfold opt
  show (match mget (.nam k) e with | some ds => (match ixN ds.length i with | some j => Q (mset (.nam k) e (ds.set j dv)) | none => False) | none => False) = _
  cases mget (.nam k) e with
  | none => rfl
  | some ds =>
    simp only
    cases ixN ds.length i <;> rfl
def D.two : D → Option (D × D)
  | .tup [a, b] => some (a, b)
  | _ => none
theorem a_two {a b : D} : D.two (.tup [a, b]) = some (a, b) := rfl
theorem x_swIx {te to ti to2 ti2 x P e} : sSwIx te to ti to2 ti2 x P e = te x e fun r0 e1 => fz r0 e1 fun dv e2 => opt dv.two <| HB.mk (fun p => subA to ti p.1 x e2 fun e3 => subA to2 ti2 p.2 x e3 P.nx) () := by
  unfold sSwIx opt
  congr 1; funext r0 e1; congr 1; funext dv e2
  split
  · rfl
  · rename_i h
    cases hd : D.two dv with
    | none => rfl
    | some p =>
      unfold D.two at hd
      split at hd
      · exact absurd rfl (h _ _)
      · cases hd
theorem x_mkX {c ns t x e Q} : tMkX c ns t x e Q = t x e fun ds e1 => ds.length = ns.length ∧ Q (.d (.exc c ns ds)) e1 := rfl
theorem x_mk0 {c x e Q} : tMk0 c x e Q = Q (.d (.exc c [] [])) e := rfl
theorem x_raise0 {c x D e} : sRaise0 c x D e = x ⟨c, []⟩ e.st := rfl
def D.exB (tb : Nat → Option Bool) : D → Option Bool
  | .exc c _ _ => tb c
  | _ => none
theorem a_exB {tb c ns ds} : D.exB tb (.exc c ns ds) = tb c := rfl
theorem a_tbl {bs c} : tbl bs c = bs[c]? := rfl
theorem a_cbl {n c} : cbl n c = decide (c < n) := rfl
theorem x_isX {tb te x e Q} : tIsX tb te x e Q = te x e fun r e1 => opt (rv r e1) <| HB.mk (fun d => opt (d.exB tb) <| HB.mk (fun b => Q (.d (.bl b)) e1) ()) () := by
  unfold tIsX opt
  congr 1; funext r e1
  cases rv r e1 with
  | none => rfl
  | some d =>
    cases d with
    | exc c ns ds =>
      simp only [D.exB]
      cases tb c <;> rfl
    | _ => rfl
def D.exA (n : Str) (cb : Nat → Bool) : D → Option D
  | .exc c ns ds => if cb c = true then xlk n ns ds else none
  | _ => none
theorem x_xattr {n cb te x e Q} : tXA n cb te x e Q = te x e fun r e1 => opt (rv r e1) <| HB.mk (fun d => opt (d.exA n cb) <| HB.mk (fun y => Q (.d y) e1) ()) () := by
  unfold tXA opt
  congr 1; funext r e1
  cases rv r e1 with
  | none => rfl
  | some d =>
    cases d with
    | exc c ns ds =>
      simp only [D.exA]
      cases cb c with
      | false => exact propext ⟨fun h => absurd h.1 Bool.false_ne_true, fun h => h.elim⟩
      | true =>
        simp only [true_and, if_true]
        cases xlk n ns ds <;> rfl
    | _ => rfl
end Pu
set_option maxRecDepth 100000
set_option maxHeartbeats 4000000
namespace Pu
open PySem L2 PySem.Spec PyProof.Rows PuE
theorem x_dictT0 {x e Q} : tDictT0 x e Q = Q (.dT []) e := rfl
theorem x_aT {i d e Q} : asgR i (.dT d) e Q = Q (e.setC i (.dT d)) := rfl
theorem toR_T {d} : C.toR (.dT d) = .dT d := rfl
theorem toR_K {d} : C.toR (.dK d) = .dK d := rfl
theorem retC_dT {D d e} : retC (.dT d) (HB.mk (D, e) ()) = D.rt (.dT d) e := rfl
theorem retC_dK {D d e} : retC (.dK d) (HB.mk (D, e) ()) = D.rt (.dK d) e := rfl
theorem x_retT {D d e} : retR D (.dT d) e = D.rt (.dT d) e := rfl
theorem x_retK {D d e} : retR D (.dK d) e = D.rt (.dK d) e := rfl
def tgC : Option C → Option (List (List Key × D))
  | some (.dT ds) => some ds
  | _ => none
theorem tgC_dT {ds} : tgC (some (.dT ds)) = some ds := rfl
theorem x_tgg {i e} : tget (.nam i) e = tgC e.sl[i]? := by
  show (match e.sl[i]? with | some (.dT ds) => some ds | _ => none) = _
  unfold tgC
  cases e.sl[i]? with
  | none => rfl
  | some c => cases c <;> rfl
theorem x_tgRn {i e} : tgetR (.nam i) e = tget (.nam i) e := rfl
theorem x_tgRf {ks ds e} : tgetR (.d (.dct ks ds)) e = some (ks.zip ds) := rfl
theorem x_tss {i e ds} : tset (.nam i) e ds = e.setC i (.dT ds) := rfl
theorem tupK_t {ds} : tupK (.tup ds) = keyL ds := rfl
def consK : Option Key → Option (List Key) → Option (List Key)
  | some k, some ks => some (k :: ks)
  | _, _ => none
theorem consK_s {k ks} : consK (some k) (some ks) = some (k :: ks) := rfl
theorem keyL_n : keyL [] = some [] := rfl
theorem keyL_c {d ds} : keyL (d :: ds) = consK (keyD d) (keyL ds) := by
  rw [keyL]
  cases keyD d with
  | none => rfl
  | some k => simp only; cases keyL ds <;> rfl
theorem x_dgT {to ti x e Q} : tDGT to ti x e Q = to x e fun r e1 => hold r e1 fun r e1 => ti x e1 fun ri e2 => opt (tgetR r e2) <| HB.mk (fun kvs => opt (rv ri e2) <| HB.mk (fun kd => opt (tupK kd) <| HB.mk (fun k => opt (getA kvs k) <| HB.mk (fun d => Q (.d d) e2) ()) ()) ()) () := by
  unfold tDGT opt
  congr 1; funext r e1; congr 1; funext r e1; congr 1; funext ri e2
  cases tgetR r e2 with
  | none => rfl
  | some kvs =>
    simp only
    cases rv ri e2 with
    | none => rfl
    | some kd =>
      simp only
      cases tupK kd with
      | none => rfl
      | some k => simp only; cases getA kvs k <;> rfl
theorem x_dptT {te to ti x P e} : sDPtT te to ti x P e = te x e fun r0 e1 => fz r0 e1 fun dv e2 => to x e2 fun ro e3 => hold ro e3 fun ro e3 => ti x e3 fun ri e4 => opt (tget ro e4) <| HB.mk (fun kvs => opt (rv ri e4) <| HB.mk (fun kd => opt (tupK kd) <| HB.mk (fun k => kvs.length < sizeLine ∧ P.nx (tset ro e4 (setA kvs k dv))) ()) ()) () := by
  unfold sDPtT opt
  congr 1; funext r e1; congr 1; funext r e1; congr 1; funext ri e2; congr 1; funext ri e2; congr 1; funext ri2 e4
  cases tget ri e4 with
  | none => rfl
  | some kvs =>
    simp only
    cases rv ri2 e4 with
    | none => rfl
    | some kd =>
      simp only
      cases tupK kd <;> rfl
theorem x_callT {p t x e Q} : tCallT p t x e Q = t x e fun rs e1 => oneR rs <| HB.mk (fun r => opt (tgetR r e1) <| HB.mk (fun kvs => p kvs fun r => Q r e1) ()) () := by
  unfold tCallT opt oneR
  congr 1; funext rs e1
  match rs with
  | [] => rfl
  | [r] => simp only; cases tgetR r e1 <;> rfl
  | _ :: _ :: _ => rfl
theorem a_lenTT {kvs Q} : pLenT kvs Q = Q (.d (.int kvs.length)) := rfl
theorem a_listT {kvs Q} : pListT kvs Q = (kvs.length ≤ sizeLine ∧ (∀ kv ∈ kvs, kv.1.length ≤ sizeLine ∧ kv.1.all isIK = true) ∧ Q (.own (kvs.map fun kv => .tup (kv.1.map invK)))) := rfl
theorem a_dictT {ds Q} : pDictT [.lst ds] Q = (opt (pairsT ds) <| HB.mk (fun kvs => Q (.dT (mergeA [] kvs))) ()) := by
  unfold pDictT opt
  simp only
  cases pairsT ds <;> rfl
theorem a_dictK {ds Q} : pDictK [.lst ds] Q = (opt (pairsK ds) <| HB.mk (fun kvs => Q (.dK (mergeA [] kvs))) ()) := by
  unfold pDictK opt
  simp only
  cases pairsK ds <;> rfl
theorem x_chn {g g' ta tb tc x e Q} : tChn g g' ta tb tc x e Q = ta x e fun r0 e1 => opt (rv r0 e1) <| HB.mk (fun d => iC d <| HB.mk (fun i => tb x e1 fun r1 e2 => opt (rv r1 e2) <| HB.mk (fun d => iC d <| HB.mk (fun j => br (g i j) (HB.mk ((tc x e2 fun r2 e3 => opt (rv r2 e3) <| HB.mk (fun d => iC d <| HB.mk (fun k => Q (.d (.bl (g' j k))) e3) ()) ()), (Q (.d (.bl false)) e2)) ())) ()) ()) ()) () := by
  unfold tChn opt iC br
  congr 1; funext r0 e1
  cases rv r0 e1 with
  | none => rfl
  | some d =>
    cases d with
    | int i =>
      simp only
      congr 1; funext r1 e2
      cases rv r1 e2 with
      | none => rfl
      | some d =>
        cases d with
        | int j =>
          simp only
          congr 1
          congr 1; funext r2 e3
          cases rv r2 e3 with
          | none => rfl
          | some d => cases d <;> rfl
        | _ => rfl
    | _ => rfl
theorem a_mmT {f : Int → List Int → Int} {i j : Int} {Q} : pMMI f [.tup [.int i, .int j]] Q = Q (.d (.int (f i [j]))) := rfl
theorem fold1 {f : Int → Int → Int} {i j : Int} : [j].foldl f i = f i j := rfl
def sortNH (d : D) (h : HB (R → Prop)) : Prop := pSortN [d] h.b
theorem x_sortN {d Q} : pSortN [d] Q = sortNH d (HB.mk Q ()) := rfl
def nT (l : List Nat) : List Itm := l.map fun n : Nat => (Sum.inl (n : Int) : Itm)
end Pu
set_option maxRecDepth 100000
set_option maxHeartbeats 4000000
namespace Pu
open PySem L2
theorem a_lenSS {ds Q} : pLenS (.lst ds) Q = (opt (strL ds) <| HB.mk (fun ls => ls.length < 64 ∧ Q (.d (.int (unlT ls)))) ()) := by
  unfold opt
  show (match strL ds with | some ls => _ | none => False) = _
  cases strL ds <;> rfl
theorem a_ltT {xs ys Q} : pLtT (.tup xs) (.tup ys) Q = (opt (intL xs) <| HB.mk (fun ns => opt (intL ys) <| HB.mk (fun ms => Q (.d (.bl (HT.lexLt ns ms)))) ()) ()) := by
  unfold opt
  show (match intL xs, intL ys with | some ns, some ms => _ | _, _ => False) = _
  cases intL xs with
  | none => rfl
  | some ns => cases intL ys <;> rfl
theorem intL_n : intL [] = some [] := rfl
def consI (i : Int) : Option (List Int) → Option (List Int)
  | some l => some (i :: l)
  | none => none
theorem consI_s {i l} : consI i (some l) = some (i :: l) := rfl
theorem intL_c {i ds} : intL (.int i :: ds) = consI i (intL ds) := by
  rw [intL]
  cases intL ds <;> rfl
def consS (i : List Nat) : Option (List (List Nat)) → Option (List (List Nat))
  | some l => some (i :: l)
  | none => none
theorem consS_s {i l} : consS i (some l) = some (i :: l) := rfl
theorem strL_n : strL [] = some [] := rfl
theorem strL_c {i ds} : strL (.str i :: ds) = consS i (strL ds) := by
  rw [strL]
  cases strL ds <;> rfl
theorem x_chn3 {g1 g2 g3 ta tb tc td x e Q} : tChn3 g1 g2 g3 ta tb tc td x e Q = ta x e fun r0 e1 => opt (rv r0 e1) <| HB.mk (fun d => iC d <| HB.mk (fun i => tb x e1 fun r1 e2 => opt (rv r1 e2) <| HB.mk (fun d => iC d <| HB.mk (fun j => br (g1 i j) (HB.mk ((tc x e2 fun r2 e3 => opt (rv r2 e3) <| HB.mk (fun d => iC d <| HB.mk (fun k => br (g2 j k) (HB.mk ((td x e3 fun r3 e4 => opt (rv r3 e4) <| HB.mk (fun d => iC d <| HB.mk (fun l => Q (.d (.bl (g3 k l))) e4) ()) ()), (Q (.d (.bl false)) e3)) ())) ()) ()), (Q (.d (.bl false)) e2)) ())) ()) ()) ()) () := by
  unfold tChn3 opt iC br
  congr 1; funext r0 e1
  cases rv r0 e1 with
  | none => rfl
  | some d =>
    cases d with
    | int i =>
      simp only
      congr 1; funext r1 e2
      cases rv r1 e2 with
      | none => rfl
      | some d =>
        cases d with
        | int j =>
          simp only
          congr 1
          congr 1; funext r2 e3
          cases rv r2 e3 with
          | none => rfl
          | some d =>
            cases d with
            | int k =>
              simp only
              congr 1
              congr 1; funext r3 e4
              cases rv r3 e4 with
              | none => rfl
              | some d => cases d <;> rfl
            | _ => rfl
        | _ => rfl
    | _ => rfl
end Pu
set_option maxRecDepth 100000
set_option maxHeartbeats 4000000
namespace Pu
open PySem L2
end Pu
set_option maxRecDepth 100000
set_option maxHeartbeats 4000000
namespace Pu
open PySem L2
theorem a_dictN {ds Q} : pDictN [.lst ds] Q = (opt (pairsN ds) <| HB.mk (fun kvs => (kvs.map (·.1)).Nodup ∧ (∀ p ∈ kvs, p.1.depth ≤ 8 ∧ ∃ ds, p.2.1 = .tup ds) ∧ Q (.d (.dcn (kvs.map (·.2.1)) (kvs.map (·.2.2))))) ()) := by
  unfold pDictN opt
  simp only
  cases pairsN ds <;> rfl
theorem a_gN {ks is kd Q} : pGN (.dcn ks is) kd Q = (opt (getN ks is kd) <| HB.mk (fun i => Q (.d (.int i))) ()) := by
  unfold opt
  show (match getN ks is kd with | some i => Q (.d (.int i)) | none => False) = _
  cases getN ks is kd <;> rfl
theorem x_gls {n t ds e Q} : gLs n t (.lst ds) e Q = (ds.length = n ∧ t ds e Q) := rfl
def tC (d : D) (h : HB (List D → Prop)) : Prop := match d with
  | .tup s => h.b s
  | _ => False
theorem tC_s {b f} : tC (.tup b) (HB.mk f ()) = f b := rfl
theorem x_revT {t x e Q} : iRevT t x e Q = t x e fun r e1 => fz r e1 fun d e2 => tC d <| HB.mk (fun s => Q s.reverse e2) () := by
  unfold iRevT tC
  congr 1
end Pu
set_option maxRecDepth 100000
set_option maxHeartbeats 4000000
namespace Pu
open PySem L2
theorem x_chS {g g' ta tb tc x e Q} : tChS g g' ta tb tc x e Q = ta x e fun r0 e1 => opt (rv r0 e1) <| HB.mk (fun d => sC d <| HB.mk (fun i => tb x e1 fun r1 e2 => opt (rv r1 e2) <| HB.mk (fun d => sC d <| HB.mk (fun j => br (g i j) (HB.mk ((tc x e2 fun r2 e3 => opt (rv r2 e3) <| HB.mk (fun d => sC d <| HB.mk (fun k => Q (.d (.bl (g' j k))) e3) ()) ()), (Q (.d (.bl false)) e2)) ())) ()) ()) ()) () := by
  unfold tChS opt sC br
  congr 1; funext r0 e1
  cases rv r0 e1 with
  | none => rfl
  | some d =>
    cases d with
    | str i =>
      simp only
      congr 1; funext r1 e2
      cases rv r1 e2 with
      | none => rfl
      | some d =>
        cases d with
        | str j =>
          simp only
          congr 1
          congr 1; funext r2 e3
          cases rv r2 e3 with
          | none => rfl
          | some d => cases d <;> rfl
        | _ => rfl
    | _ => rfl
end Pu
set_option maxRecDepth 100000
set_option maxHeartbeats 4000000
namespace Pu
open PySem L2 PuE
def ltNH (d e : D) (h : HB (R → Prop)) : Prop := pLtN d e h.b
theorem x_ltN {d e Q} : pLtN d e Q = ltNH d e (HB.mk Q ()) := rfl
/-- what the clause without a name does with an exception -/
def trH0 (n : Nat) (cb : Nat → Bool) (h : HB (PTS × PEn)) : PX := fun ex st => cb ex.c = true ∧ h.b.1 noX h.b.2 ⟨List.replicate n C.un, st⟩
theorem x_try0 {n cb tb ts x D e} : sTry0 n cb tb ts x D e = (noOwn e.sl ∧ tb (trH0 n cb (HB.mk (ts, D) ())) D e) := rfl
end Pu
set_option maxRecDepth 100000
set_option maxHeartbeats 4000000
namespace Pu
open PySem L2
section
variable {Γ Γ' : Gm} {κ κ' : Ka} {H H' : Hp} {env env' : En} {σ : Sl} {v : V} {st : Sto} {Y : Fam} {e o value : Expr} {te tv : PTE} {pos pos' : Pos}
/-- an attribute of an object of the class c -/
def getF (c : Nat) (f : Str) (st : Sto) : D → Option D
  | .ref k => match st[k]? with
    | some (.ins c' fs) => if c' = c then fs.lookup f else none
    | _ => none
  | _ => none
def tFldP (c : Nat) (f : Str) (te : PTE) : PTE := fun x e Q => te x e fun r e1 => match rv r e1 with
  | some d => match getF c f e1.st d with
    | some y => Q (.d y) e1
    | none => False
  | none => False
theorem getF_ok {c : Nat} {f : Str} {d y : D} (I : Rl Γ κ env σ H) (h : RepT Γ κ H v d) (e : getF c f env.st d = some y) :
    ∃ a dx vs w, v = .ref a ∧ H a = some (.ins (Γ.cls c) dx vs) ∧ vs.lookup f = some w ∧ Rep Γ.K Γ.cls κ H w y := by
  cases d with
  | ref k =>
    have h : Rep Γ.K Γ.cls κ H v (.ref k) := h
    cases h with
    | @ref a _ hk =>
      obtain ⟨so, g1, g2⟩ := I.gh.obj a k hk
      unfold getF at e
      simp only [g1] at e
      cases so with
      | ins c' fs =>
        simp only at e
        by_cases hc : c' = c
        · subst hc
          rw [if_pos rfl] at e
          obtain ⟨dx, vs, h1, h2⟩ := g2
          obtain ⟨w, h3, h4⟩ := h2.lookup e
          exact ⟨a, dx, vs, w, rfl, h1, h3, h4⟩
        · rw [if_neg hc] at e; cases e
      | _ => cases e
  | _ => cases e
theorem ve_fld {c : Nat} {f : Str} (C : Cls Y.K (Y.cls c)) (N : NoAttr Y.K (Y.cls c) f) (he : VE Y e te) (hb : ∀ X : Cx, attributeBase e f X.env (eval e X.env) = eval e X.env := by intro _; rfl) : VE Y (.Attribute e f pos) (tFldP c f te) := by
  obtain ⟨re, pe, fe⟩ := he.ex
  refine ⟨⟨fun E => tFld Y.K (re E) f, fun i => by have := pe_fld (pos := pos) (pe i) (hb _); rw [Y.hK i] at this; exact this, fun Γ σ κ H env Q Q' hK I q k => ?_⟩⟩
  refine fe Γ σ κ H env _ _ hK I q fun v κ1 H1 r1 e1 x1 I1 h1 q1 => ?_
  cases e1' : rv r1 e1 with
  | none => rw [e1'] at q1; exact q1.elim
  | some d =>
    rw [e1'] at q1
    simp only at q1
    cases g : getF c f e1.st d with
    | none => rw [g] at q1; exact q1.elim
    | some y =>
      rw [g] at q1
      obtain ⟨a, dx, vs, w, rfl, h2, h3, h4⟩ := getF_ok I1 (rv_ok I1 h1 e1') g
      exact ⟨a, Y.cls c, dx, vs, w, rfl, by rw [← hK.c]; exact h2, C, N, h3, k w κ1 H1 (.d y) e1 x1 I1 h4 q1⟩
theorem Gh.put_obj {a : Addr} {so : SO} (g : Gh Γ κ st H) (h : κ a = none) (h0 : Γ.H0 a = none) (ht : H a ≠ none) (hr : ObjR Γ (put κ a (.obj st.length)) H a so) : Gh Γ (put κ a (.obj st.length)) (st ++ [so]) H := by
  have nk : Γ.k0 a = none := by
    cases q : Γ.k0 a with
    | none => rfl
    | some x => have := g.sub a x q; rw [h] at this; cases this
  have ne : ∀ b x, κ b = some x → b ≠ a := fun b x e z => by rw [z, h] at e; cases e
  have lt : ∀ b k, κ b = some (.obj k) → k < st.length := fun b k e => by
    obtain ⟨so, h1, _⟩ := g.obj b k e
    exact (List.getElem?_eq_some_iff.mp h1).1
  refine ⟨fun b x e => (Ext.put (H := H) h).1 b x (g.sub b x e), fun b x e => ?_, fun b x e => ?_, g.trk0, fun b e => ?_, fun b k e => ?_, fun b c k e1 e2 => ?_, g.base⟩
  · by_cases hb : b = a
    · subst hb; exact .inr (.inl h0)
    · rw [put_ne hb] at e; exact g.new b x e
  · by_cases hb : b = a
    · subst hb; exact ht
    · rw [put_ne hb] at e; exact g.trk b x e
  · by_cases hb : b = a
    · subst hb; rw [put_same] at e; cases e
    · rw [put_ne hb] at e; exact g.box b e
  · by_cases hb : b = a
    · subst hb
      rw [put_same] at e
      cases e
      exact ⟨so, by simp, hr⟩
    · rw [put_ne hb] at e
      obtain ⟨so', h1, h2⟩ := g.obj b k e
      exact ⟨so', by rw [List.getElem?_append_left (lt b k e)]; exact h1, h2.ext (Ext.put h) rfl⟩
  · by_cases hb : b = a
    · subst hb
      by_cases hc : c = b
      · exact hc.symm
      · rw [put_same] at e1
        rw [put_ne hc] at e2
        cases e1
        exact absurd (lt c _ e2) (by omega)
    · rw [put_ne hb] at e1
      by_cases hc : c = a
      · subst hc
        rw [put_same] at e2
        cases e2
        exact absurd (lt b _ e1) (by omega)
      · rw [put_ne hc] at e2
        exact g.inj b c k e1 e2
/-- what is kept in an object: data, or a new list or dict as an object of its own -/
def kp : R → En → (D → En → Prop) → Prop
  | .d d, e, Q => Q d e
  | .own ds, e, Q => Q (.ref e.st.length) ⟨e.sl, e.st ++ [.lst ds]⟩
  | .dK kvs, e, Q => Q (.ref e.st.length) ⟨e.sl, e.st ++ [.dK kvs]⟩
  | .dT kvs, e, Q => Q (.ref e.st.length) ⟨e.sl, e.st ++ [.dT kvs]⟩
  | .nam i, e, Q => match e.sl[i]? with
    | some (.d d) => Q d e
    | _ => False
def setFD (f : Str) (d : D) : List (Str × D) → List (Str × D)
  | [] => [(f, d)]
  | (g, x) :: r => if g = f then (g, d) :: r else (g, x) :: setFD f d r
theorem PR.setF {K : PySem.W.Frag} {cl : Cl} {f : Str} {d : D} (r : Rep K cl κ H v d) : ∀ {ds : List (Str × D)} {vs : List (Str × V)}, PR K cl κ H vs ds → PR K cl κ H (putF f v vs) (setFD f d ds)
  | _, _, .nil => .cons r .nil
  | _, _, .cons (a := a) r1 h => by
    unfold putF setFD
    by_cases e : a = f
    · rw [if_pos e, if_pos e]; exact .cons r h
    · rw [if_neg e, if_neg e]; exact .cons r1 (PR.setF r h)
def putFS (c : Nat) (f : Str) (d : D) (ro : D) (e : En) (N : En → Prop) : Prop := match ro with
  | .ref k => match e.st[k]? with
    | some (.ins c' fs) => c' = c ∧ fs.length < 1000 ∧ N ⟨e.sl, e.st.set k (.ins c (setFD f d fs))⟩
    | _ => False
  | _ => False
def sFldP (c : Nat) (f : Str) (te tv : PTE) : PTS := fun x P e => tv x e fun r0 e1 => kp r0 e1 fun d e2 => te x e2 fun ro e3 => match rv ro e3 with
  | some o => putFS c f d o e3 P.nx
  | none => False
end
end Pu
set_option maxRecDepth 100000
set_option maxHeartbeats 4000000
namespace Pu
open PySem L2 PySem.Spec PyProof.Rows
section
variable {X : Cx} {CX : CXT} {k : Nat} {f C : Addr} {fd : FuncData} {ps : List Str} {sp : Sp} {dvs : List V} {ds : List Value} {E : XK} {x m : Str} {p pos apos : Pos} {e o : Expr} {es : List Expr} {t : TA} {ta : TE}
theorem pe_methG {pl : Sem Bool} (he : PE X o ta) (c : Cls X.K C) (hm : Meth X.K C m f) (F : FnG X.prog X.w X.K X.mg X.base CX k f fd ps sp) (hr : Room k X.A) (hgd : X.A.guards = some []) (hb : Binds X.K fd ps ds) (hd : Vals dvs ds) (hx : Passes CX X E) (ha : PA X (e :: es) t)
    (ht : eval (.Call (.Attribute o m apos) (e :: es) [] pos) X.env = (do
      let ov ← eval o X.env
      standAt apos.atName
      let (f, first) ← holding [ov] (getMethod ov m pl)
      callWith pos f first (backTo pos (starEach (e :: es) X.env)) (backToKw pos (keywordEach [] X.env))))
    (hst : starEach (e :: es) X.env = (false, eval e X.env) :: starEach es X.env := by rfl) (hpl : (backTo pos (starEach es X.env)).any (·.1) = false := by rfl) :
    PE X (.Call (.Attribute o m apos) (e :: es) [] pos) (L2.tMeth C m sp dvs E ta t) := by
  constructor
  intro pins s σ H Q I h
  refine PySem.W.methodCall_KW (pl := pl) (thn (he.run pins s σ H _ I h) fun u s1 ⟨x, H1, I1, rx, a, dx, fs, ex, ea, l, q⟩ => ?_) ht
  subst ex
  obtain rfl : u = Value.ref a := rx
  refine getmeth_ok I1 ea c hm l ?_
  refine PySem.W.callWith_K (first := [.ref a]) (h₀ := X.base) I.ok.mod.kin hm.kp (thn (ha.run pos pins s1 σ H1 _ I1 q) fun us s2 ⟨vs, H2, I2, r, q2⟩ => ⟨I2.kIn, ?_⟩) hst hpl
  exact goG (gs := .ref a :: us) (us := .ref a :: vs) F hr hgd hb hd hx I2 (.cons rfl r) q2
theorem pe_meth0G {pl : Sem Bool} (he : PE X o ta) (c : Cls X.K C) (hm : Meth X.K C m f) (F : FnG X.prog X.w X.K X.mg X.base CX k f fd ps sp) (hr : Room k X.A) (hgd : X.A.guards = some []) (hb : Binds X.K fd ps ds) (hd : Vals dvs ds) (hx : Passes CX X E)
    (ht : eval (.Call (.Attribute o m apos) [] [] pos) X.env = (do
      let ov ← eval o X.env
      standAt apos.atName
      let (f, first) ← holding [ov] (getMethod ov m pl)
      callWith pos f first (backTo pos (starEach [] X.env)) (backToKw pos (keywordEach [] X.env)))) :
    PE X (.Call (.Attribute o m apos) [] [] pos) (L2.tMeth C m sp dvs E ta L2.tNil) := by
  constructor
  intro pins s σ H Q I h
  refine PySem.W.methodCall_KW (pl := pl) (thn (he.run pins s σ H _ I h) fun u s1 ⟨x, H1, I1, rx, a, dx, fs, ex, ea, l, q⟩ => ?_) ht
  subst ex
  obtain rfl : u = Value.ref a := rx
  refine getmeth_ok I1 ea c hm l ?_
  exact PySem.W.callWith_K0 (first := [.ref a]) I1.kIn hm.kp (goG (gs := [.ref a]) (us := [.ref a]) F hr hgd hb hd hx I1 (.cons rfl .nil) q)
theorem run_makeG {pins : List (Addr × Obj)} {σ : L2.St} {H : Hp} {s : Shared} {Q : VK} {us : List Value} {vs : List V} (M : Mk X.K C f) (F : FnG X.prog X.w X.K X.mg X.base CX k f fd ps sp) (hr : Room (k + 1) X.A) (hgd : X.A.guards = some []) (hb : Binds X.K fd ps ds) (hd : Vals dvs ds)
    (hx : Passes CX X E) (I : Inv X pins σ H s) (r : Vals vs us)
    (h : ∀ x dx, H x = none → H dx = none → dx ≠ x → sp (.ref x :: (vs ++ dvs)) (upd (upd H dx (.own x)) x (.ins C dx [])) (fun v H2 => v = .non ∧ Q (.ref x) H2) E) :
    wpAny (model X.prog X.w) X.A (call (.ref C) us) (EP X pins σ Q) X.xe s := by
  have hq := h (s.heap.objs.size + 1) s.heap.objs.size (I.hok.fresh (Nat.le_succ _)) (I.hok.fresh (Nat.le_refl _)) (Nat.ne_of_lt (Nat.lt_succ_self _))
  have I2 := Inv.made (C := C) I
  have r2 : Vals (V.ref (s.heap.objs.size + 1) :: (vs ++ dvs)) (Value.ref (s.heap.objs.size + 1) :: (us ++ ds)) := .cons rfl (r.append hd)
  have hl : (Value.ref (s.heap.objs.size + 1) :: us ++ ds).length = ps.length := by
    have e := r2.length
    rw [F.many _ _ _ _ hq] at e
    exact e.symm
  refine wpAny_call (make_map (f := f) I.kIn M.makes M.init (beq_iff_eq.mp M.fn) (codeAny_mono (F.go _ X.stack _ _ ⟨Value.ref (s.heap.objs.size + 1) :: us, []⟩ (Value.ref (s.heap.objs.size + 1) :: (us ++ ds)) _ _ E (hr.make C us []) hgd
    (I2.env0.make C us []) (hb _ (Value.ref (s.heap.objs.size + 1) :: us) I2.kIn hl) r2 hq) fun r s' hq' => ?_))
  cases r with
  | error e => exact hx pins σ _ _ e s' I2 hq'
  | ok fl =>
    cases fl with
    | ret u =>
      obtain ⟨v, H', I3, rv, ev, q3⟩ := I2.after hq'
      subst ev
      exact ⟨rv, ⟨V.ref (s.heap.objs.size + 1), H', I3, rfl, q3⟩⟩
    | next => exact False.elim hq'
    | brk => exact False.elim hq'
    | cont => exact False.elim hq'
theorem pe_makeG (M : Mk X.K C f) (F : FnG X.prog X.w X.K X.mg X.base CX k f fd ps sp) (hr : Room (k + 1) X.A) (hgd : X.A.guards = some []) (hg : Gl X x) (hm : X.mg x = some (.ref C)) (hb : Binds X.K fd ps ds) (hd : Vals dvs ds) (hx : Passes CX X E)
    (ha : PA X (e :: es) t) (hdb : (x == ("__debug__" : Str)) = false := by decide) (he : starEach (e :: es) X.env = (false, eval e X.env) :: starEach es X.env := by rfl) (hpl : (backTo pos (starEach es X.env)).any (·.1) = false := by rfl) :
    PE X (.Call (.Name x p) (e :: es) [] pos) (L2.tMake C sp dvs E t) := by
  constructor
  intro pins s σ H Q I h
  refine wpAny_Call_Name_kw (ld_glob I hg hm ?_ hdb)
  refine PySem.W.callWith_K (h₀ := X.base) I.ok.mod.kin M.kp (thn (ha.run pos pins s σ H _ I h) fun us s1 ⟨vs, H1, I1, r, q⟩ => ⟨I1.kIn, ?_⟩) he hpl
  exact run_makeG M F hr hgd hb hd hx I1 r q
end
section
variable {Γ Γ' : Gm} {κ κ' : Ka} {H H' : Hp} {env env' : En} {σ : Sl} {v : V} {st : Sto} {Y : Fam} {e o value : Expr} {es : List Expr} {to : PTE} {t : PTA} {pos apos p : Pos}
/-- an object of the class c that has no attribute of the name -/
def noF (c : Nat) (f : Str) (st : Sto) (d : D) : Prop := match d with
  | .ref k => match st[k]? with
    | some (.ins c' fs) => c' = c ∧ fs.lookup f = none
    | _ => False
  | _ => False
theorem PR.lookupN {K : PySem.W.Frag} {cl : Cl} {n : Str} : ∀ {ds : List (Str × D)} {vs : List (Str × V)}, PR K cl κ H vs ds → ds.lookup n = none → vs.lookup n = none
  | _, _, .nil, _ => rfl
  | _, _, .cons (a := a) (d := d) (v := v) r h, e => by
    rw [List.lookup_cons] at e ⊢
    cases q : (n == a) with
    | true => rw [q] at e; cases e
    | false => rw [q] at e; exact h.lookupN e
theorem noF_ok {c : Nat} {f : Str} {d : D} (I : Rl Γ κ env σ H) (h : RepT Γ κ H v d) (e : noF c f env.st d) :
    ∃ a dx vs, v = .ref a ∧ H a = some (.ins (Γ.cls c) dx vs) ∧ vs.lookup f = none ∧ Rep Γ.K Γ.cls κ H v d := by
  cases d with
  | ref k =>
    have h : Rep Γ.K Γ.cls κ H v (.ref k) := h
    have h' := h
    cases h with
    | @ref a _ hk =>
      obtain ⟨so, g1, g2⟩ := I.gh.obj a k hk
      unfold noF at e
      simp only [g1] at e
      cases so with
      | ins c' fs =>
        simp only at e
        obtain ⟨rfl, e⟩ := e
        obtain ⟨dx, vs, h1, h2⟩ := g2
        exact ⟨a, dx, vs, rfl, h1, h2.lookupN e, h'⟩
      | _ => exact e.elim
  | _ => exact e.elim
def tMethP (c : Nat) (nm : Str) (m : PM) (to : PTE) (t : PTA) : PTE := fun x e Q => to x e fun ro e1 => match rv ro e1 with
  | some d => noF c nm e1.st d ∧ t x e1 fun ds e2 => m (d :: ds) e2.st fun c st' => Q c.toR ⟨e2.sl, st'⟩
  | none => False
theorem ve_im {c k : Nat} {f : Addr} {fd : FuncData} {ps : List Str} {nm : Str} {m : PM} {pl : Cx → Sem Bool} (C : Cls Y.K (Y.cls c)) (hm : Meth Y.K (Y.cls c) nm f) (F : ∀ i, FnG (Y.X i).prog (Y.X i).w (Y.X i).K (Y.X i).mg (Y.X i).base CX0 k f fd ps (sp0 Y.K Y.cls Y.flds m)) (hr : ∀ i, Room k (Y.X i).A) (hgd : ∀ i, (Y.X i).A.guards = some []) (hb : Binds Y.K fd ps [])
    (ho : VE Y o to) (ha : VA Y (e :: es) t)
    (ht : ∀ X : Cx, eval (.Call (.Attribute o nm apos) (e :: es) [] pos) X.env = (do
      let ov ← eval o X.env
      standAt apos.atName
      let (f, first) ← holding [ov] (getMethod ov nm (pl X))
      callWith pos f first (backTo pos (starEach (e :: es) X.env)) (backToKw pos (keywordEach [] X.env))) := by intro _; rfl)
    (he : ∀ X : Cx, starEach (e :: es) X.env = (false, eval e X.env) :: starEach es X.env := by intro _; rfl) (hpl : ∀ X : Cx, (backTo pos (starEach es X.env)).any (·.1) = false := by intro _; rfl) :
    VE Y (.Call (.Attribute o nm apos) (e :: es) [] pos) (tMethP c nm m to t) := by
  obtain ⟨ro, po, fo⟩ := ho.ex
  obtain ⟨ra, pa, fa⟩ := ha.ex
  refine ⟨⟨fun E => L2.tMeth (Y.cls c) nm (sp0 Y.K Y.cls Y.flds m) [] E0 (ro E) (ra E), fun i => pe_methG (pl := pl (Y.X i)) (po i) (by rw [Y.hK i]; exact C) (by rw [Y.hK i]; exact hm) (F i) (hr i) (hgd i) (by rw [Y.hK i]; exact hb) .nil pass0 (pa i) (ht _) (he _) (hpl _), fun Γ σ κ H env Q Q' hK I q kk => ?_⟩⟩
  refine fo Γ σ κ H env _ _ hK I q fun v κ1 H1 r1 e1 x1 I1 h1 q1 => ?_
  cases e' : rv r1 e1 with
  | none => rw [e'] at q1; exact q1.elim
  | some d =>
    rw [e'] at q1
    obtain ⟨q1, q2⟩ := q1
    obtain ⟨a, dx, vs, rfl, g1, g2, g3⟩ := noF_ok I1 (rv_ok I1 h1 e') q1
    refine ⟨a, dx, vs, rfl, by rw [← hK.c]; exact g1, g2, ?_⟩
    refine fa Γ σ κ1 H1 e1 _ _ hK I1 q2 fun ws κ2 H2 ds e2 x2 I2 h2 q3 => ?_
    rw [List.append_nil, ← hK.k, ← hK.c, ← hK.f]
    refine ⟨κ2, d :: ds, e2.st, _, Gh.enter I2, .cons (g3.mono x2) h2, q3, fun v κ' H' c st' g r q => ?_⟩
    exact kk v κ' H' c.toR ⟨e2.sl, st'⟩ ((x1.trans x2).trans (Ext.leave I2.gh g)) (I2.leave g) (RelC.leave I2 r) q
theorem ve_im0 {c k : Nat} {f : Addr} {fd : FuncData} {ps : List Str} {nm : Str} {m : PM} {pl : Cx → Sem Bool} (C : Cls Y.K (Y.cls c)) (hm : Meth Y.K (Y.cls c) nm f) (F : ∀ i, FnG (Y.X i).prog (Y.X i).w (Y.X i).K (Y.X i).mg (Y.X i).base CX0 k f fd ps (sp0 Y.K Y.cls Y.flds m)) (hr : ∀ i, Room k (Y.X i).A) (hgd : ∀ i, (Y.X i).A.guards = some []) (hb : Binds Y.K fd ps [])
    (ho : VE Y o to)
    (ht : ∀ X : Cx, eval (.Call (.Attribute o nm apos) [] [] pos) X.env = (do
      let ov ← eval o X.env
      standAt apos.atName
      let (f, first) ← holding [ov] (getMethod ov nm (pl X))
      callWith pos f first (backTo pos (starEach [] X.env)) (backToKw pos (keywordEach [] X.env))) := by intro _; rfl) :
    VE Y (.Call (.Attribute o nm apos) [] [] pos) (tMethP c nm m to tNil) := by
  obtain ⟨ro, po, fo⟩ := ho.ex
  refine ⟨⟨fun E => L2.tMeth (Y.cls c) nm (sp0 Y.K Y.cls Y.flds m) [] E0 (ro E) L2.tNil, fun i => pe_meth0G (pl := pl (Y.X i)) (po i) (by rw [Y.hK i]; exact C) (by rw [Y.hK i]; exact hm) (F i) (hr i) (hgd i) (by rw [Y.hK i]; exact hb) .nil pass0 (ht _), fun Γ σ κ H env Q Q' hK I q kk => ?_⟩⟩
  refine fo Γ σ κ H env _ _ hK I q fun v κ1 H1 r1 e1 x1 I1 h1 q1 => ?_
  cases e' : rv r1 e1 with
  | none => rw [e'] at q1; exact q1.elim
  | some d =>
    rw [e'] at q1
    obtain ⟨q1, q2⟩ := q1
    obtain ⟨a, dx, vs, rfl, g1, g2, g3⟩ := noF_ok I1 (rv_ok I1 h1 e') q1
    refine ⟨a, dx, vs, rfl, by rw [← hK.c]; exact g1, g2, ?_⟩
    show sp0 Y.K Y.cls Y.flds m [.ref a] H1 Q' E0
    rw [← hK.k, ← hK.c, ← hK.f]
    refine ⟨κ1, [d], e1.st, _, Gh.enter I1, .cons g3 .nil, q2, fun v κ' H' c st' g r q => ?_⟩
    exact kk v κ' H' c.toR ⟨e1.sl, st'⟩ (x1.trans (Ext.leave I1.gh g)) (I1.leave g) (RelC.leave I1 r) q
def tMakeP (c : Nat) (m : PM) (t : PTA) : PTE := fun x e Q => t x e fun ds e1 => m (.ref e1.st.length :: ds) (e1.st ++ [.ins c []]) fun r st' => r = .d .non ∧ Q (.d (.ref e1.st.length)) ⟨e1.sl, st'⟩
theorem made_ok {c : Nat} {x dx : Addr} (I : Rl Γ κ env σ H) (h1 : H x = none) (h2 : H dx = none) (ne : dx ≠ x) :
    Ext κ H (put κ x (.obj env.st.length)) (upd (upd H dx (.own x)) x (.ins (Γ.cls c) dx [])) ∧ Rl Γ (put κ x (.obj env.st.length)) ⟨env.sl, env.st ++ [.ins c []]⟩ σ (upd (upd H dx (.own x)) x (.ins (Γ.cls c) dx [])) := by
  have I1 : Rl Γ κ env σ (upd H dx (.own x)) := I.upd_new h2
  have n1 : upd H dx (.own x) x = none := by rw [upd_ne (fun z => ne z.symm)]; exact h1
  have I2 : Rl Γ κ env σ (upd (upd H dx (.own x)) x (.ins (Γ.cls c) dx [])) := I1.upd_new n1
  have kx : κ x = none := I.gh.nokap h1
  have hx0 : Γ.H0 x = none := I.gh.nokap0 h1
  have x1 : Ext κ H κ (upd (upd H dx (.own x)) x (.ins (Γ.cls c) dx [])) := (Ext.upd_new I.gh h2).trans (Ext.upd_new I1.gh n1)
  have x2 : Ext κ (upd (upd H dx (.own x)) x (.ins (Γ.cls c) dx [])) (put κ x (.obj env.st.length)) (upd (upd H dx (.own x)) x (.ins (Γ.cls c) dx [])) := Ext.put kx
  refine ⟨x1.trans x2, I2.step x2 (fun i b hb => ⟨?_, rfl⟩) (I2.gh.put_obj kx hx0 (by rw [upd_same]; simp) ⟨dx, [], upd_same, .nil⟩)⟩
  have hba : b ≠ x := fun z => I1.fresh n1 i (by
    obtain ⟨z1, z2⟩ := hb
    exact z ▸ ⟨z1, z2⟩)
  rw [put_ne hba]
  obtain ⟨c, _, hc⟩ := I2.ownS hb
  exact hc.facts.1
theorem ve_make {c k : Nat} {f : Addr} {fd : FuncData} {ps : List Str} {x : Str} {m : PM} (M : Mk Y.K (Y.cls c) f) (F : ∀ i, FnG (Y.X i).prog (Y.X i).w (Y.X i).K (Y.X i).mg (Y.X i).base CX0 k f fd ps (sp0 Y.K Y.cls Y.flds m)) (hr : ∀ i, Room (k + 1) (Y.X i).A) (hgd : ∀ i, (Y.X i).A.guards = some []) (hm : ∀ i, (Y.X i).mg x = some (.ref (Y.cls c))) (hb : Binds Y.K fd ps [])
    (ha : VA Y (e :: es) t) (hg : ∀ i, Gl (Y.X i) x := by intro _; rfl) (hdb : (x == ("__debug__" : Str)) = false := by decide) (he : ∀ X : Cx, starEach (e :: es) X.env = (false, eval e X.env) :: starEach es X.env := by intro _; rfl) (hpl : ∀ X : Cx, (backTo pos (starEach es X.env)).any (·.1) = false := by intro _; rfl) :
    VE Y (.Call (.Name x p) (e :: es) [] pos) (tMakeP c m t) := by
  obtain ⟨ra, pa, fa⟩ := ha.ex
  refine ⟨⟨fun E => L2.tMake (Y.cls c) (sp0 Y.K Y.cls Y.flds m) [] E0 (ra E), fun i => pe_makeG (by rw [Y.hK i]; exact M) (F i) (hr i) (hgd i) (hg i) (hm i) (by rw [Y.hK i]; exact hb) .nil pass0 (pa i) hdb (he _) (hpl _), fun Γ σ κ H env Q Q' hK I q kk => ?_⟩⟩
  refine fa Γ σ κ H env _ _ hK I q fun vs κ1 H1 ds e1 x1 I1 h1 q1 => ?_
  intro a dx n1 n2 ne
  rw [List.append_nil, ← hK.k, ← hK.c, ← hK.f]
  obtain ⟨x2, I2⟩ := made_ok (c := c) I1 n1 n2 ne
  refine ⟨_, .ref e1.st.length :: ds, _, _, Gh.enter I2, .cons (.ref put_same) (h1.mono x2), q1, fun v κ' H' r st' g rr q => ?_⟩
  obtain ⟨rfl, q⟩ := q
  have rn : v = .non := by cases rr; rfl
  refine ⟨rn, kk (.ref a) κ' H' (.d (.ref e1.st.length)) ⟨e1.sl, st'⟩ ((x1.trans x2).trans (Ext.leave I2.gh g)) (I2.leave g) (.ref (g.sub a _ put_same)) q⟩
end
end Pu
set_option maxRecDepth 100000
set_option maxHeartbeats 4000000
namespace Pu
open PySem L2 PySem.Spec PyProof.Rows
/-- a class's method: what its def is -/
structure MethOk (K : PySem.W.Frag) (C : Addr) (nm q : Str) (st : Stmt) (ps : List Str) (f : Addr) (fd : FuncData) : Prop where
  fn : Fun K nm q st f fd
  b : Binds K fd ps []
  m : Meth K C nm f
section
variable {Γ Γ' : Gm} {κ κ' : Ka} {H H' : Hp} {env env' : En} {σ : Sl} {v : V} {st : Sto} {Y : Fam} {a b e o value : Expr} {te tv ta tb : PTE} {pos pos' : Pos}
def sFldZ (c : Nat) (f : Str) (te tv : PTE) : PTS := fun x P e => tv x e fun r0 e1 => fz r0 e1 fun d e2 => te x e2 fun ro e3 => match rv ro e3 with
  | some o => putFS c f d o e3 P.nx
  | none => False
theorem vs_fldZ {c : Nat} {f : Str} (C : Cls Y.K (Y.cls c)) (N : NoAttr Y.K (Y.cls c) f) (ho : VE Y o te) (hv : VE Y value tv) (hs : ∀ i, swapsWith value (some (.Attribute o f pos')) pos.line (Y.X i).env = pure false := by intro _; rfl) :
    VS Y (.Assign [.Attribute o f pos'] value pos) (sFldZ c f te tv) := by
  obtain ⟨ro, po, fo⟩ := ho.ex
  obtain ⟨rv', pv, fv⟩ := hv.ex
  refine ⟨⟨fun E => sFld Y.K (ro E) (rv' E) f, fun i => by have := ps_fld (pos := pos) (pos' := pos') (f := f) (po i) (pv i) (hs i); rw [Y.hK i] at this; exact this, fun Γ σ κ H env P P' hK I q l => ?_⟩⟩
  refine fv Γ σ κ H env _ _ hK I q fun v κ1 H1 r1 e1 x1 I1 h1 q1 => ?_
  refine fz_ok I1 h1 q1 fun κ2 d e2 x2 I2 h2 q2 => ?_
  refine fo Γ σ κ2 H1 e2 _ _ hK I2 q2 fun ov κ3 H3 r3 e3 x3 I3 h3 q3 => ?_
  cases e' : rv r3 e3 with
  | none => rw [e'] at q3; exact q3.elim
  | some od =>
    rw [e'] at q3
    simp only at q3
    have rt := rv_ok I3 h3 e'
    cases od with
    | ref k =>
      have rt : Rep Γ.K Γ.cls κ3 H3 ov (.ref k) := rt
      cases rt with
      | @ref a _ hk =>
        obtain ⟨so, g1, g2⟩ := I3.gh.obj a k hk
        unfold putFS at q3
        simp only [g1] at q3
        cases so with
        | ins c' fs =>
          simp only at q3
          obtain ⟨rfl, hl, q4⟩ := q3
          obtain ⟨dx, vs, h5, h6⟩ := g2
          have hvd : Rep Γ.K Γ.cls κ3 H3 v d := h2.mono x3
          refine ⟨a, Y.cls c', dx, vs, rfl, by rw [← hK.c]; exact h5, C, N, by rw [h6.length]; exact hl, ?_⟩
          have x : Ext κ3 H3 κ3 (L2.upd H3 a (.ins (Γ.cls c') dx (putF f v vs))) := ⟨fun _ _ e => e, fun b e => upd_ne fun z => by rw [z, hk] at e; cases e⟩
          have J := I3.step x (fun i b hb => by
            obtain ⟨c, _, hc⟩ := I3.ownS hb
            exact ⟨hc.facts.1, upd_ne fun z => by have := hc.facts.1; rw [z, hk] at this; cases this⟩) (I3.gh.upd_obj (so := .ins c' (setFD f d fs)) hk (fun H' e x' => ⟨dx, putF f v vs, e, (h6.setF hvd).mono x'⟩) (List.getElem?_eq_some_iff.mp g1).1)
          rw [← hK.c]
          exact l.1 σ κ3 _ _ (((x1.trans x2).trans x3).trans x) J q4
        | _ => exact q3.elim
    | _ => exact q3.elim
/-- what a value reads as: a list of the store as its things -/
def rdO (st : Sto) : D → D
  | .ref k => match st[k]? with
    | some (.lst ds) => .lst ds
    | _ => .ref k
  | d => d
def t2O (ta tb : PTE) (p : D → D → (R → Prop) → Prop) : PTE := fun x env Q => ta x env fun r1 e1 => hold r1 e1 fun r1 e1 => tb x e1 fun r2 e2 =>
  match rv r1 e2, rv r2 e2 with
  | some d1, some d2 => p (rdO e2.st d1) (rdO e2.st d2) (fun r => Q r e2)
  | _, _ => False
end
end Pu
set_option maxRecDepth 100000
set_option maxHeartbeats 4000000
namespace PuE
open PySem PySem.Spec PyProof.Rows L2
end PuE
namespace Pu
open PySem L2 PuE
section
variable {Γ Γ' : Gm} {κ κ' : Ka} {H H' : Hp} {env env' : En} {σ : Sl} {v : V} {st : Sto} {Y : Fam} {a b c d e : Expr} {es : List Expr} {ta tb tc td te : PTE} {pos : Pos}
def pGtN (d e : D) (Q : R → Prop) : Prop := match d, e with
  | .tup xs, .tup ys => match itsD xs, itsD ys with
    | some l, some m => l.map isS = m.map isS ∧ Q (.d (.bl (ltN m l)))
    | _, _ => False
  | _, _ => False
end
end Pu
set_option maxRecDepth 100000
set_option maxHeartbeats 4000000
namespace PuE
open PySem PySem.Spec PyProof.Rows L2
/-- the first place of a pair -/
def ixPr (k : Int × Int) (ps : List (Int × Int)) : Nat := @List.idxOf _ instBEqOfDecidableEq k ps
end PuE
namespace Pu
open PySem L2 PuE
section
variable {Γ Γ' : Gm} {κ κ' : Ka} {H H' : Hp} {env env' : En} {σ : Sl} {v : V} {st : Sto} {Y : Fam} {a b e o : Expr} {es : List Expr} {ta tb te to : PTE} {pos : Pos}
def prI : D → Option (Int × Int)
  | .tup [.int a, .int b] => some (a, b)
  | _ => none
def prsI : List D → Option (List (Int × Int))
  | [] => some []
  | d :: ds => (prI d).bind fun p => (prsI ds).map fun ps => p :: ps
def pIndexT (d : D) (ds : List D) (Q : R → Prop) : Prop := match d, ds with
  | .tup l, [y] => match prsI l, prI y with
    | some ps, some k => k ∈ ps ∧ Q (.d (.int (ixPr k ps : Nat)))
    | _, _ => False
  | _, _ => False
def tMethT (p : D → List D → (R → Prop) → Prop) (to : PTE) (t : PTR) : PTE := fun x e Q => to x e fun r e1 => hold r e1 fun r e1 => (match rv r e1 with
  | some (.tup ds) => ordL ds = true
  | _ => False) ∧ t x e1 fun rs e2 => match rv r e2, rvL rs e2 with
    | some d, some ds => p d ds (fun r => Q r e2)
    | _, _ => False
end
end Pu
set_option maxRecDepth 100000
set_option maxHeartbeats 4000000
namespace PuE
open PySem PySem.Spec PyProof.Rows L2
theorem spl_memX (S : List Nat) : ∀ (l : List Nat) (k : Nat) (acc p : List Nat), p ∈ TL.spl S k acc l → ∀ c ∈ p, c ∈ acc ∨ c ∈ l
  | [], k, acc, p, h, c, hc => by
    rw [TL.spl_nil, List.mem_singleton] at h
    subst h
    exact .inl hc
  | x :: l, 0, acc, p, h, c, hc => by
    unfold TL.spl at h
    split at h
    · rcases List.mem_cons.mp h with rfl | h
      · exact .inl hc
      · rcases spl_memX S l _ _ p h c hc with h | h
        · cases h
        · exact .inr (List.mem_cons_of_mem _ h)
    · rcases spl_memX S l _ _ p h c hc with h | h
      · rcases List.mem_append.mp h with h | h
        · exact .inl h
        · rw [List.mem_singleton] at h
          subst h
          exact .inr (by simp)
      · exact .inr (List.mem_cons_of_mem _ h)
  | x :: l, k + 1, acc, p, h, c, hc => by
    unfold TL.spl at h
    rcases spl_memX S l _ _ p h c hc with h | h
    · exact .inl h
    · exact .inr (List.mem_cons_of_mem _ h)
theorem spl_lenX (S : List Nat) : ∀ (l : List Nat) (k : Nat) (acc : List Nat), (TL.spl S k acc l).length ≤ l.length + 1 ∧ ∀ p ∈ TL.spl S k acc l, p.length ≤ acc.length + l.length
  | [], k, acc => by
    rw [TL.spl_nil]
    exact ⟨by simp, fun p hp => by rw [List.mem_singleton] at hp; subst hp; omega⟩
  | x :: l, 0, acc => by
    unfold TL.spl
    split
    · obtain ⟨h1, h2⟩ := spl_lenX S l (S.length - 1) []
      refine ⟨by rw [List.length_cons, List.length_cons]; omega, fun p hp => ?_⟩
      rcases List.mem_cons.mp hp with rfl | hp
      · omega
      · have := h2 p hp
        rw [List.length_nil] at this
        rw [List.length_cons]
        omega
    · obtain ⟨h1, h2⟩ := spl_lenX S l 0 (acc ++ [x])
      refine ⟨by rw [List.length_cons]; omega, fun p hp => ?_⟩
      have := h2 p hp
      rw [List.length_append, List.length_singleton] at this
      rw [List.length_cons]
      omega
  | x :: l, k + 1, acc => by
    unfold TL.spl
    obtain ⟨h1, h2⟩ := spl_lenX S l k acc
    refine ⟨by rw [List.length_cons]; omega, fun p hp => ?_⟩
    have := h2 p hp
    rw [List.length_cons]
    omega
theorem num_S (n : Nat) : Str.ofString (toString ((n : Nat) : Int)) = (⟨(TL.numL n).toArray⟩ : Str) := TL.ext_tl ((TL.tl_num n).trans rfl)
def rSplitX (_ : PySem.W.Frag) : V → List V → Hp → VK → Prop := fun x xs H Q => ∃ a b, x = .str a ∧ xs = [.str b] ∧ (b.length == 0) = false ∧ a.length + 2 ≤ sizeLine ∧ rNewStrs (Txt.split a b) H Q
theorem num_log {n : Nat} (h : n < 2 ^ 64) : ((n : Nat) : Int).natAbs.log2 < 1920 := by
  have e : ((n : Nat) : Int).natAbs = n := rfl
  rw [e]
  by_cases z : n = 0
  · subst z; decide
  · have := (Nat.log2_lt z (k := 64)).mpr h
    omega
theorem num_len20 {n : Nat} (h : n < 2 ^ 64) : (TL.numL n).length ≤ 20 := TL.numL_len (by decide) (Nat.lt_trans h (by decide))
end PuE
namespace Pu
open PySem L2 PuE
section
variable {Γ Γ' : Gm} {κ κ' : Ka} {H H' : Hp} {env env' : En} {σ : Sl} {v : V} {st : Sto} {Y : Fam} {a b c d e o : Expr} {es : List Expr} {ta tb tc td te to : PTE} {pos : Pos}
def pSplit (d : D) (ds : List D) (Q : R → Prop) : Prop := match d, ds with
  | .str l, [.str s] => s ≠ [] ∧ s.all (· < 256) = true ∧ l.length + 2 ≤ 16777216 ∧ Q (.own ((TL.spl s 0 [] l).map D.str))
  | _, _ => False
theorem rep_strsX : ∀ {ls : List (List Nat)}, (∀ l ∈ ls, SOk l) → RepL Γ.K Γ.cls κ H ((ls.map fun l => (⟨l.toArray⟩ : Str)).map V.str) (ls.map D.str)
  | [], _ => .nil
  | l :: ls, h => .cons (.str l (h l (by simp))) (rep_strsX fun m hm => h m (by simp [hm]))
theorem ref_split : MtRef "str" rSplitX pSplit := by
  intro Γ σ κ H env v d vs ds Q Q' I hd hs q k
  match d, ds, vs, hd, hs, q with
  | .str l, [.str s], _, hd, .cons hx .nil, q =>
    obtain ⟨rfl, hl⟩ := Rep.strE hd
    obtain ⟨rfl, hsx⟩ := Rep.strE hx
    obtain ⟨q1, q2, q3, q4⟩ := q
    refine ⟨_, _, rfl, rfl, ?_, ?_, fun p hp => ?_⟩
    · rw [str_len]
      cases s with
      | nil => exact absurd rfl q1
      | cons c s => rfl
    · rw [str_len, sizeLine_eq]; exact q3
    · have e := SX.split_S (a := l) (b := s) q1 q2
      have e : Txt.split (⟨l.toArray⟩ : Str) (⟨s.toArray⟩ : Str) = (TL.spl s 0 [] l).map fun l => (⟨l.toArray⟩ : Str) := e
      rw [e]
      obtain ⟨l1, l2⟩ := spl_lenX s l 0 []
      refine k _ κ _ (.own _) (Ext.upd_new I.gh hp) (I.upd_new hp) (new_lst I hp ?_ (rep_strsX fun m hm => ⟨?_, fun c hc => ?_⟩)) q4
      · rw [List.length_map, List.length_map, sizeLine_eq]; omega
      · have := l2 m hm
        rw [List.length_nil] at this
        have := hl.1
        omega
      · rcases spl_memX s l 0 [] m hm c hc with h | h
        · cases h
        · exact hl.2 c h
theorem ve_split {apos cpos : Pos} {t : PTR} (ho : VE Y o to) (ha : VR Y [e] t) (hbase : ∀ X : Cx, attributeBase o "split" X.env (eval o X.env) = eval o X.env := by intro _; rfl)
    (hfew : ∀ X : Cx, ((backTo cpos (starEach [e] X.env)).all (fun x => !x.1) && (backToKw cpos (keywordEach [] X.env)).all (fun x => x.1.isSome)
      && decide (([e] : List Expr).length + ([] : List Keyword).length + (if ([] : List Keyword).isEmpty then 0 else 1) < 30)) = true := by intro _; rfl)
    (hline : (apos.endLine == cpos.line) = true := by rfl) (hs : ∀ X : Cx, starEach [e] X.env = (false, eval e X.env) :: starEach [] X.env := by intro _; rfl) :
    VE Y (.Call (.Attribute o "split" apos) [e] [] cpos) (tMeth "str" pSplit to t) :=
  ve_meth PySem.F.plainAttrs_str PySem.F.slot_str_split PySem.F.type_str_split (fun _ => mt_split) ref_split ho ha hbase hfew hline hs
theorem sok_num {n : Nat} (h : n < 2 ^ 64) : SOk (TL.numL n) := by
  refine ⟨by rw [sizeLine_eq]; have := num_len20 h; omega, fun c hc => ?_⟩
  have := TL.numL_digits n c hc
  omega
def pStrI : List D → (R → Prop) → Prop
  | [.int i], Q => 0 ≤ i ∧ i < 2 ^ 64 ∧ Q (.d (.str (TL.numL i.toNat)))
  | _, _ => False
theorem ref_strI : CallRef (fun _ xs H Q => ∃ i, xs = [.int i] ∧ i.natAbs.log2 < 1920 ∧ Q (.str (toString i)) H) pStrI := by
  intro Γ σ κ H env vs ds Q Q' I h q k
  match ds, vs, h, q with
  | [.int i], _, .cons h .nil, q =>
    cases h
    obtain ⟨q1, q2, q3⟩ := q
    obtain ⟨n, rfl⟩ := Int.eq_ofNat_of_zero_le q1
    have hn : n < 2 ^ 64 := by omega
    refine ⟨_, rfl, num_log hn, ?_⟩
    have e : (Str.ofString (toString ((n : Nat) : Int)) : Str) = ⟨(TL.numL n).toArray⟩ := num_S n
    show Q' (.str (Str.ofString (toString ((n : Nat) : Int)))) H
    rw [e]
    exact k _ κ H (.d (.str (TL.numL n))) (.refl ..) I (.str _ (sok_num hn)) q3
def pIntS : List D → (R → Prop) → Prop
  | [.str a], Q => a.all (fun c => decide (48 ≤ c) && decide (c ≤ 57)) = true ∧ a ≠ [] ∧ a.length ≤ 640 ∧ Q (.d (.int (NumText.digitsVal a : Nat)))
  | _, _ => False
theorem ref_intS : CallRef (fun _ xs H Q => ∃ a n, xs = [.str a] ∧ PySem.intText? a = some n ∧ a.length ≤ 640 ∧ Q (.int n) H) pIntS := by
  intro Γ σ κ H env vs ds Q Q' I h q k
  match ds, vs, h, q with
  | [.str a], _, .cons h .nil, q =>
    obtain ⟨rfl, _⟩ := Rep.strE h
    obtain ⟨q1, q2, q3, q4⟩ := q
    exact ⟨_, _, rfl, SX.int_S q1 q2 (by omega), by rw [str_len]; exact q3, k _ κ H (.d (.int (NumText.digitsVal a : Nat))) (.refl ..) I (.int _) q4⟩
theorem ve_intS {p' : Pos} {t : PTR} (hm : ∀ i, (Y.X i).mg "int" = none) (ha : VR Y [e] t) (hg : ∀ i, Gl (Y.X i) "int" := by intro _; rfl) (he : ∀ X : Cx, starEach [e] X.env = (false, eval e X.env) :: starEach [] X.env := by intro _; rfl) : VE Y (.Call (.Name "int" p') [e] [] pos) (tCallP pIntS t) :=
  ve_callTy (r := fun _ xs H Q => ∃ a n, xs = [.str a] ∧ PySem.intText? a = some n ∧ a.length ≤ 640 ∧ Q (.int n) H) (fun _ => call_int_str) ref_intS hm ha hg (he := he)
def f3I (d : D) (h : HB (Int → Prop)) : Prop := match d with
  | .int i => 0 ≤ i ∧ i < 2 ^ 64 ∧ h.b i
  | _ => False
def tFs3P (ta : PTE) (s : List Nat) (tb : PTE) : PTE := fun x e Q => ta x e fun r e1 => fz r e1 fun d1 e2 => f3I d1 (HB.mk (fun i => tb x e2 fun r2 e3 => fz r2 e3 fun d2 e4 => f3I d2 (HB.mk (fun j => Q (.d (.str (TL.numL i.toNat ++ s ++ TL.numL j.toNat))) e4) ())) ())
end
end Pu
set_option maxRecDepth 100000
set_option maxHeartbeats 4000000
namespace PuE
open PySem PySem.Spec PyProof.Rows L2 PySem.W
def Izs (K : PySem.W.Frag) (a : Str) (tb : Bool) (b : Addr) : It :=
  ⟨fun i H => ∃ (c : Nat) (ys : List V) (y : V), SqB K H tb b ys ∧ a.cps[i]? = some c ∧ ys[i]? = some y,
    fun i H v H' => ∃ T c y, v = .ref T ∧ H T = none ∧ H' = upd H T (.tup [.str ⟨#[c]⟩, y]) ∧ a.cps[i]? = some c ∧ ∀ ys, SqB K H tb b ys → ys[i]? = some y,
    fun i H => ∃ ys : List V, SqB K H tb b ys ∧ i ≤ a.cps.size ∧ i ≤ ys.length ∧ (i = a.cps.size ∨ i = ys.length)⟩
def iZipS (K : PySem.W.Frag) (ta : TA) : TI := fun σ H R => ta σ H fun vs H1 => ∃ a b t2 ys, vs = [.str a, .ref b] ∧ SqB K H1 t2 b ys ∧ R (Izs K a t2 b) H1
end PuE
namespace Pu
open PySem L2 PySem.Spec PyProof.Rows
section
variable {Γ Γ' : Gm} {κ κ' : Ka} {H H' : Hp} {env env' : En} {σ : Sl} {v : V} {st : Sto} {Y : Fam} {a b e o : Expr} {es : List Expr} {ta tb te to ti : PTE} {pos : Pos}
def iZipS (t : PTR) : PTI := fun x e Q => t x e fun rs e1 => match rs with
  | [r1, r2] => fz r1 e1 fun d1 e2 => fz r2 e2 fun d2 e3 => match d1, d2.side with
    | .str l, some (_, es) => Q (zipF (signs l) es) e3
    | _, _ => False
  | _ => False
end
end Pu
set_option maxRecDepth 100000
set_option maxHeartbeats 4000000
namespace Pu
open PySem L2 PySem.Spec PyProof.Rows
section
variable {Γ Γ' : Gm} {κ κ' : Ka} {H H' : Hp} {env env' : En} {σ : Sl} {v : V} {st : Sto} {Y : Fam} {a b e o : Expr} {es : List Expr} {ta tb te to ti : PTE} {pos : Pos}
def sParO (i j : Nat) (ta tb : PTE) : PTS := fun x D e => ta x e fun r1 e1 => fz r1 e1 fun d1 e2 => tb x e2 fun r2 e3 => i < e3.sl.length ∧ j < e3.sl.length ∧ asgR j r2 e3 fun e4 => D.nx (e4.setC i (.d d1))
end
end Pu
set_option maxRecDepth 100000
set_option maxHeartbeats 4000000
namespace Pu
open PySem L2 PuE
def kF (r : R) (e : En) (h : HB (Nat × Str × (R → En → Prop))) : Prop := opt (rv r e) (HB.mk (fun d => opt (getF h.b.1 h.b.2.1 e.st d) (HB.mk (fun y => h.b.2.2 (.d y) e) ())) ())
theorem x_fld {c f te x e Q} : tFldP c f te x e Q = te x e fun r e1 => kF r e1 (HB.mk (c, f, Q) ()) := by
  unfold tFldP kF opt
  congr 1; funext r e1
  cases rv r e1 with
  | none => rfl
  | some d =>
    simp only
    cases getF c f e1.st d <;> rfl
theorem x_kF {r e c f Q} : kF r e (HB.mk (c, f, Q) ()) = opt (rv r e) (HB.mk (fun d => opt (getF c f e.st d) (HB.mk (fun y => Q (.d y) e) ())) ()) := rfl
theorem getF_of {c k : Nat} {f : Str} {st : Sto} {fs : List (Str × D)} (h : st[k]? = some (.ins c fs)) : getF c f st (.ref k) = fs.lookup f := by
  unfold getF
  simp [h]
def putH (d : D) (o : D) (e : En) (h : HB (Nat × Str × (En → Prop))) : Prop := putFS h.b.1 h.b.2.1 d o e h.b.2.2
theorem putH_of {c k : Nat} {f : Str} {d : D} {e : En} {fs : List (Str × D)} {N : En → Prop} (h : e.st[k]? = some (.ins c fs)) (l : fs.length < 1000) (q : N ⟨e.sl, e.st.set k (.ins c (setFD f d fs))⟩) : putH d (.ref k) e (HB.mk (c, f, N) ()) := by
  show putFS c f d (.ref k) e N
  unfold putFS
  simp only [h]
  exact ⟨trivial, l, q⟩
def kSF (d : D) (ro : R) (e : En) (h : HB (Nat × Str × (En → Prop))) : Prop := opt (rv ro e) (HB.mk (fun o => putH d o e h) ())
theorem x_kSF {d ro e h} : kSF d ro e h = opt (rv ro e) (HB.mk (fun o => putH d o e h) ()) := rfl
theorem x_sfldZ {c f te tv x P e} : sFldZ c f te tv x P e = tv x e fun r0 e1 => fz r0 e1 fun d e2 => te x e2 fun ro e3 => kSF d ro e3 (HB.mk (c, f, P.nx) ()) := by
  unfold sFldZ kSF opt putH
  congr 1; funext r0 e1; congr 1; funext d e2; congr 1; funext ro e3
  cases rv ro e3 <;> rfl
theorem x_sfldP {c f te tv x P e} : sFldP c f te tv x P e = tv x e fun r0 e1 => kp r0 e1 fun d e2 => te x e2 fun ro e3 => kSF d ro e3 (HB.mk (c, f, P.nx) ()) := by
  unfold sFldP kSF opt putH
  congr 1; funext r0 e1; congr 1; funext d e2; congr 1; funext ro e3
  cases rv ro e3 <;> rfl
theorem x_kpd {d e Q} : kp (.d d) e Q = Q d e := rfl
theorem x_kpo {ds e Q} : kp (.own ds) e Q = Q (.ref e.st.length) ⟨e.sl, e.st ++ [.lst ds]⟩ := rfl
theorem x_kpK {ds e Q} : kp (.dK ds) e Q = Q (.ref e.st.length) ⟨e.sl, e.st ++ [.dK ds]⟩ := rfl
theorem x_kpT {ds e Q} : kp (.dT ds) e Q = Q (.ref e.st.length) ⟨e.sl, e.st ++ [.dT ds]⟩ := rfl
def kpC (c : C) (h : HB (En × (D → En → Prop))) : Prop := match c with
  | .d d => h.b.2 d h.b.1
  | _ => False
theorem x_kpC {d e Q} : kpC (.d d) (HB.mk (e, Q) ()) = Q d e := rfl
theorem x_kpn {i e Q} : kp (.nam i) e Q = opt e.sl[i]? (HB.mk (fun c => kpC c (HB.mk (e, Q) ())) ()) := by
  show (match e.sl[i]? with | some (.d d) => Q d e | _ => False) = _
  unfold opt
  cases e.sl[i]? with
  | none => rfl
  | some c => cases c <;> rfl
def k2cO (o1 o2 : Option D) (e : En) (h : HB ((D → D → (R → Prop) → Prop) × (R → En → Prop))) : Prop := match o1, o2 with
  | some a, some b => h.b.1 (rdO e.st a) (rdO e.st b) fun r => h.b.2 r e
  | _, _ => False
def k2bO (r1 r2 : R) (e : En) (h : HB ((D → D → (R → Prop) → Prop) × (R → En → Prop))) : Prop := k2cO (rv r1 e) (rv r2 e) e h
def k2aO (r : R) (e : En) (h : HB (PTE × PX × (D → D → (R → Prop) → Prop) × (R → En → Prop))) : Prop := hold r e fun r e => h.b.1 h.b.2.1 e fun r2 e2 => k2bO r r2 e2 (HB.mk h.b.2.2 ())
theorem x_2O {ta tb p x e Q} : t2O ta tb p x e Q = ta x e fun r1 e1 => k2aO r1 e1 (HB.mk (tb, x, p, Q) ()) := by
  unfold t2O k2aO k2bO k2cO
  rfl
theorem x_k2adO {d tb p x e Q} : k2aO (.d d) e (HB.mk (tb, x, p, Q) ()) = tb x e fun r2 e2 => k2bO (.d d) r2 e2 (HB.mk (p, Q) ()) := rfl
theorem x_k2aoO {d tb p x e Q} : k2aO (.own d) e (HB.mk (tb, x, p, Q) ()) = tb x e fun r2 e2 => k2bO (.d (.lst d)) r2 e2 (HB.mk (p, Q) ()) := rfl
theorem x_k2anO {i tb p x e Q} : k2aO (.nam i) e (HB.mk (tb, x, p, Q) ()) = tb x e fun r2 e2 => k2bO (.nam i) r2 e2 (HB.mk (p, Q) ()) := rfl
theorem x_k2bO {r1 r2 e h} : k2bO r1 r2 e h = k2cO (rv r1 e) (rv r2 e) e h := rfl
theorem x_k2cO {a b e p Q} : k2cO (some a) (some b) e (HB.mk (p, Q) ()) = p (rdO e.st a) (rdO e.st b) fun r => Q r e := rfl
theorem noF_of {c k : Nat} {f : Str} {st : Sto} {fs : List (Str × D)} (h : st[k]? = some (.ins c fs)) (l : fs.lookup f = none) : noF c f st (.ref k) := by
  unfold noF
  simp only [h]
  exact ⟨trivial, l⟩
def kIM (ro : R) (e : En) (h : HB (Nat × Str × PTA × PX × PM × (R → En → Prop))) : Prop := opt (rv ro e) (HB.mk (fun d => noF h.b.1 h.b.2.1 e.st d ∧ h.b.2.2.1 h.b.2.2.2.1 e fun ds e2 => kCa (d :: ds) e2 (HB.mk h.b.2.2.2.2 ())) ())
theorem x_im {c nm m to t x e Q} : tMethP c nm m to t x e Q = to x e fun ro e1 => kIM ro e1 (HB.mk (c, nm, t, x, m, Q) ()) := by
  unfold tMethP kIM opt kCa
  congr 1; funext ro e1
  cases rv ro e1 <;> rfl
theorem x_kIM {ro e c nm t x m Q} : kIM ro e (HB.mk (c, nm, t, x, m, Q) ()) = opt (rv ro e) (HB.mk (fun d => noF c nm e.st d ∧ t x e fun ds e2 => kCa (d :: ds) e2 (HB.mk (m, Q) ())) ()) := rfl
def kMk (ds : List D) (e : En) (h : HB (Nat × PM × (R → En → Prop))) : Prop := h.b.2.1 (.ref e.st.length :: ds) (e.st ++ [.ins h.b.1 []]) fun r st' => r = .d .non ∧ h.b.2.2 (.d (.ref e.st.length)) ⟨e.sl, st'⟩
theorem x_make {c m t x e Q} : tMakeP c m t x e Q = t x e fun ds e1 => kMk ds e1 (HB.mk (c, m, Q) ()) := rfl
theorem x_kMk {m : PM} {ds e c Q} : kMk ds e (HB.mk (c, m, Q) ()) = m (.ref e.st.length :: ds) (e.st ++ [.ins c []]) fun r st' => r = .d .non ∧ Q (.d (.ref e.st.length)) ⟨e.sl, st'⟩ := rfl
def gtNH (d e : D) (h : HB (R → Prop)) : Prop := pGtN d e h.b
theorem x_gtN {d e Q} : pGtN d e Q = gtNH d e (HB.mk Q ()) := rfl
def mT1 (o : Option D) (r : R) (e : En) (h : HB (PTR × PX × (D → List D → (R → Prop) → Prop) × (R → En → Prop))) : Prop := match o with
  | some (.tup ds) => ordL ds = true ∧ h.b.1 h.b.2.1 e fun rs e2 => kM2 r rs e2 (HB.mk h.b.2.2 ())
  | _ => False
def kMT (r : R) (e : En) (h : HB (PTR × PX × (D → List D → (R → Prop) → Prop) × (R → En → Prop))) : Prop := hold r e fun r e => mT1 (rv r e) r e h
theorem x_methT {p to t x e Q} : tMethT p to t x e Q = to x e fun r e1 => kMT r e1 (HB.mk (t, x, p, Q) ()) := by
  unfold tMethT kMT mT1 kM2 kM3
  congr 1; funext r e1; congr 1; funext r e1
  cases rv r e1 with
  | none => simp
  | some d =>
    cases d with
    | tup ds => rfl
    | _ => simp
theorem x_kMTd {d : D} {e h} : kMT (.d d) e h = mT1 (some d) (.d d) e h := rfl
theorem x_mT1 {ds r e t x p Q} : mT1 (some (.tup ds)) r e (HB.mk (t, x, p, Q) ()) = (ordL ds = true ∧ t x e fun rs e2 => kM2 r rs e2 (HB.mk (p, Q) ())) := rfl
def prK (o : Option (Int × Int)) (h : HB (List (Int × Int) × (R → Prop))) : Prop := match o with
  | some k => k ∈ h.b.1 ∧ h.b.2 (.d (.int (ixPr k h.b.1 : Nat)))
  | none => False
theorem x_prK {k ps Q} : prK (some k) (HB.mk (ps, Q) ()) = (k ∈ ps ∧ Q (.d (.int (ixPr k ps : Nat)))) := rfl
theorem x_ixT {l y Q} : pIndexT (.tup l) [y] Q = opt (prsI l) (HB.mk (fun ps => prK (prI y) (HB.mk (ps, Q) ())) ()) := by
  unfold pIndexT opt prK
  cases h1 : prsI l with
  | none => simp only [h1]
  | some ps => cases h2 : prI y <;> simp only [h1, h2]
theorem x_prI {a b : Int} : prI (.tup [.int a, .int b]) = some (a, b) := rfl
theorem FnG.lawS {P : Program} {w : PySem.World} {K : PySem.W.Frag} {mg : Str → Option Value} {base : Heap} {ps : List Str} {f : Addr} {fd : PySem.FuncData} {k : Nat} {cls : Cl} {flds : Nat → List Str} {m : PM}
    (hm : ∀ n s Q, n ≤ 63 → (∀ s', Q (.d (.bl true)) s') → m [.scr n] s Q) (F : FnG P w K mg base CX0 k f fd ps (sp0 K cls flds m)) : FnG P w K mg base CX0 k f fd ps (spLaw K) :=
  F.imp fun vs H Q E ⟨a, ns, e, hS, hl, q⟩ => by
    subst e
    obtain ⟨κ, hκ, hr⟩ := script_rep (cls := cls) hS hl
    refine ⟨κ, [.scr ns.length], [], fun c _ => c = .d (.bl true), gh_start hκ, .cons hr .nil, hm _ _ _ hl fun _ => rfl, fun v κ' H' c st' g r e => ?_⟩
    subst e
    have r : Rep K cls κ' H' v (.bl true) := r
    cases r
    exact q H'
theorem x_splitA {l s Q} : pSplit (.str l) [.str s] Q = (s ≠ [] ∧ s.all (· < 256) = true ∧ l.length + 2 ≤ 16777216 ∧ Q (.own ((TL.spl s 0 [] l).map D.str))) := rfl
theorem x_strI {i Q} : pStrI [.int i] Q = (0 ≤ i ∧ i < 2 ^ 64 ∧ Q (.d (.str (TL.numL i.toNat)))) := rfl
theorem x_intS {a Q} : pIntS [.str a] Q = (a.all (fun c => decide (48 ≤ c) && decide (c ≤ 57)) = true ∧ a ≠ [] ∧ a.length ≤ 640 ∧ Q (.d (.int (PySem.NumText.digitsVal a : Nat)))) := rfl
theorem x_fs3 {ta s tb x e Q} : tFs3P ta s tb x e Q = ta x e fun r e1 => fz r e1 fun d1 e2 => f3I d1 (HB.mk (fun i => tb x e2 fun r2 e3 => fz r2 e3 fun d2 e4 => f3I d2 (HB.mk (fun j => Q (.d (.str (TL.numL i.toNat ++ s ++ TL.numL j.toNat))) e4) ())) ()) := rfl
theorem x_f3I {i p} : f3I (.int i) (HB.mk p ()) = (0 ≤ i ∧ i < 2 ^ 64 ∧ p i) := rfl
theorem x_zipS {t x e Q} : iZipS t x e Q = t x e fun rs e1 => twoR rs <| HB.mk (fun r1 r2 => fz r1 e1 fun d1 e2 => fz r2 e2 fun d2 e3 => sC d1 <| HB.mk (fun l => sideH d2 <| HB.mk (fun es => Q (zipF (signs l) es) e3) ()) ()) () := by
  unfold iZipS twoR sideH sC
  congr 1; funext rs e1
  match rs with
  | [] => rfl
  | [r] => rfl
  | [r1, r2] =>
    show fz r1 e1 _ = fz r1 e1 _
    congr 1; funext d1 e2
    congr 1; funext d2 e3
    cases d1 with
    | str l => cases d2.side <;> rfl
    | _ => rfl
  | _ :: _ :: _ :: _ => rfl
theorem x_parO {i j ta tb x D e} : sParO i j ta tb x D e = ta x e fun r1 e1 => fz r1 e1 fun d1 e2 => tb x e2 fun r2 e3 => i < e3.sl.length ∧ j < e3.sl.length ∧ asgR j r2 e3 fun e4 => D.nx (e4.setC i (.d d1)) := rfl
end Pu
set_option maxRecDepth 100000
set_option maxHeartbeats 4000000
namespace Pu
open PySem L2 PySem.Spec PyProof.Rows
/-- what is never asked -/
theorem fn_no {P : Program} {w : World} {K : PySem.W.Frag} {mg : Str → Option Value} {base : Heap} {CX : CXT} {k : Nat} {f : Addr} {fd : FuncData} {ps : List Str} {sp : Sp} (h : ∀ us H Q E, ¬ sp us H Q E) : FnG P w K mg base CX k f fd ps sp :=
  ⟨fun us H Q E z => (h us H Q E z).elim, fun _ _ _ H _ _ us Q E _ _ _ _ _ z => (h us H Q E z).elim⟩
theorem sp0_no {K : PySem.W.Frag} {cls : Cl} {flds : Nat → List Str} {m : PM} (h : ∀ ds st Q, ¬ m ds st Q) : ∀ us H Q E, ¬ sp0 K cls flds m us H Q E := fun us H Q E z => by
  obtain ⟨κ, ds, st, Q', _, _, hm, _⟩ := z
  exact h _ _ _ hm
section
variable {Γ Γ' : Gm} {κ κ' : Ka} {H H' : Hp} {env env' : En} {σ : Sl} {v : V} {st : Sto} {Y : Fam} {a b e o i : Expr} {es : List Expr} {ta tb te to ti : PTE} {pos : Pos}
/-- name = e, the value data from then on -/
def sAsgZ (i : Nat) (te : PTE) : PTS := fun x D e => te x e fun r e1 => fz r e1 fun d e2 => i < e2.sl.length ∧ D.nx (e2.setC i (.d d))
/-- name = e, a new list or dict an object of the store from then on -/
def sAsgK (i : Nat) (te : PTE) : PTS := fun x D e => te x e fun r e1 => kp r e1 fun d e2 => i < e2.sl.length ∧ D.nx (e2.setC i (.d d))
def lkT (kvs : List (List Nat × Int)) (s : List Nat) : Option Int := (kvs.find? fun p => p.1 == s).map (·.2)
def tGD (kvs : List (List Nat × Int)) (ti : PTE) : PTE := fun x e Q => ti x e fun r e1 => match rv r e1 with
  | some (.str s) => match lkT kvs s with
    | some n => Q (.d (.int n)) e1
    | none => False
  | _ => False
def pCase (f : Nat → Nat) (d : D) (ds : List D) (Q : R → Prop) : Prop := match d, ds with
  | .str l, [] => l.all (· < 128) = true ∧ l.length ≤ 5592405 ∧ (∀ c ∈ l, f c < 1114112) ∧ Q (.d (.str (l.map f)))
  | _, _ => False
theorem ref_upper : MtRef "str" (fun _ x xs H Q => ∃ a, x = .str a ∧ xs = [] ∧ a.length ≤ 5592405 ∧ Q (.str (Txt.upper a)) H) (pCase up1) := by
  intro Γ σ κ H env v d vs ds Q Q' I hd hs q k
  match d, ds, vs, hd, hs, q with
  | .str l, [], _, hd, .nil, q =>
    obtain ⟨rfl, h0⟩ := Rep.strE hd
    obtain ⟨q1, q2, q3, q4⟩ := q
    refine ⟨_, rfl, rfl, by rw [str_len]; exact q2, ?_⟩
    have e : Txt.upper ⟨l.toArray⟩ = (⟨(l.map up1).toArray⟩ : Str) := SX.upper_S q1
    rw [e]
    exact k _ κ H (.d (.str (l.map up1))) (.refl ..) I (.str _ ⟨by rw [List.length_map]; exact h0.1, fun c hc => by obtain ⟨c', h, rfl⟩ := List.mem_map.mp hc; exact q3 _ h⟩) q4
theorem ve_upper {apos cpos : Pos} (ho : VE Y o to) (hbase : ∀ X : Cx, attributeBase o "upper" X.env (eval o X.env) = eval o X.env := by intro _; rfl) (hline : (apos.endLine == cpos.line) = true := by rfl) :
    VE Y (.Call (.Attribute o "upper" apos) [] [] cpos) (tMeth0 "str" (pCase up1) to) := ve_meth0 PySem.F.plainAttrs_str PySem.F.slot_str_upper PySem.F.type_str_upper (fun _ => mt_upper) ref_upper ho hbase hline
end
end Pu
set_option maxRecDepth 100000
set_option maxHeartbeats 4000000
namespace Pu
open PySem L2 PySem.Spec PyProof.Rows
end Pu
set_option maxRecDepth 100000
set_option maxHeartbeats 4000000
namespace Pu
open PySem L2 PySem.Spec PyProof.Rows
section
variable {Γ Γ' : Gm} {κ κ' : Ka} {H H' : Hp} {env env' : En} {σ : Sl} {v : V} {st : Sto} {Y : Fam} {a b e o : Expr} {es : List Expr} {ta tb te to : PTE} {t : PTA} {pos apos p : Pos}
def tMethX (c : Nat) (nm : Str) (m : PMX) (to : PTE) (t : PTA) : PTE := fun x e Q => to x e fun ro e1 => match rv ro e1 with
  | some d => noF c nm e1.st d ∧ t x e1 fun ds e2 => m (d :: ds) e2.st (fun c st' => Q c.toR ⟨e2.sl, st'⟩) x
  | none => False
def Gm.hold1 (Γ : Gm) (D : Addr) (o : HO) : Gm := { Γ with H0 := L2.upd Γ.H0 D o }
theorem Rl.hold1 {D : Addr} {o : HO} (I : Rl Γ κ env σ H) (h : H D = some o) (hk : κ D = none) (ho : ∀ i, ¬ OwnS env σ i D) : Rl (Γ.hold1 D o) κ env σ H := by
  have J := I.prot h hk ho
  exact Rl.switch (Γ := Γ.prot D o) (Γ' := Γ.hold1 D o) rfl rfl J (fun i a hs => (by obtain ⟨c, _, hc⟩ := J.ownS hs; exact hc.facts.2.1)) (Gh.same J.gh)
theorem Rl.free1 {D : Addr} {o : HO} (I : Rl (Γ.hold1 D o) κ env σ H) (nk : Γ.k0 D = none) (h0 : Γ.H0 D = none) (hot : ∀ vs, o ≠ .tup vs := by intro _ z; cases z) : Rl Γ κ env σ H ∧ κ D = none ∧ H D = some o ∧ ∀ i, ¬ OwnS env σ i D := by
  have J : Rl (Γ.prot D o) κ env σ H := Rl.switch (Γ := Γ.hold1 D o) (Γ' := Γ.prot D o) rfl rfl I (fun i a hs => (by obtain ⟨c, _, hc⟩ := I.ownS hs; exact hc.facts.2.1)) (Gh.same I.gh)
  exact J.unprot nk h0 hot
theorem Gh.free1 {D : Addr} {o : HO} (g : Gh (Γ.hold1 D o) κ st H) (nk : Γ.k0 D = none) (h0 : Γ.H0 D = none) (hot : ∀ vs, o ≠ .tup vs := by intro _ z; cases z) : Gh Γ κ st H :=
  (Rl.free1 (env := ⟨[], st⟩) (σ := []) ⟨rfl, fun i c e => by simp at e, fun i j a h1 _ => (by obtain ⟨z, _⟩ := h1; simp at z), g⟩ nk h0 hot).1.gh
def lcRx (x : PX) (g : PTG) (tt : PTT) (te : PTE) (vs : List Nat) : List D → List D → En → (List D → En → Prop) → Prop
  | [], acc, e, Q => Q acc e
  | d :: ds, acc, e, Q => g d e fun e1 => tt x e1 fun b e2 => if b = true then te x e2 fun r e3 => fz r e3 fun y e4 => lcRx x g tt te vs ds (acc ++ [y]) (wipeE vs e4) Q else lcRx x g tt te vs ds acc (wipeE vs e2) Q
def cLcX (ti : PTI) (g : PTG) (tt : PTT) (te : PTE) (vs : List Nat) : PTE := fun x e Q => ti x e fun items e1 => items.length ≤ sizeLine ∧ plainC e1.sl vs = true ∧
  lcRx x g tt te vs items [] (wipeE vs e1) fun acc e2 => Q (.own acc) (restE vs e1 e2)
end
end Pu
set_option maxRecDepth 100000
set_option maxHeartbeats 4000000
namespace Pu
open PySem L2 PySem.Spec PyProof.Rows
section
variable {Γ Γ' : Gm} {κ κ' : Ka} {H H' : Hp} {env env' : En} {σ : Sl} {v : V} {st : Sto} {Y : Fam} {a b c d e f o i : Expr} {es : List Expr} {ta tb tc td te tf to ti : PTE} {pos apos cpos : Pos}
def dck2 (k1 k2 : Key) (d1 d2 : D) : D := .dck ((setK (setK [] k1 d1) k2 d2).map (·.1)) ((setK (setK [] k1 d1) k2 d2).map (·.2))
def tDisp2 (ta tb tc td : PTE) : PTE := fun x e Q => ta x e fun r1 e1 => fz r1 e1 fun y1 e1 => tb x e1 fun r2 e2 => fz r2 e2 fun y2 e2 => tc x e2 fun r3 e3 => fz r3 e3 fun y3 e3 => td x e3 fun r4 e4 => fz r4 e4 fun y4 e4 => match keyD y1, keyD y3 with
  | some k1, some k2 => Q (.d (dck2 k1 k2 y2 y4)) e4
  | _, _ => False
theorem GK.hold1 {D : Addr} {o : HO} (hK : GK Y Γ) (nk : Γ.k0 D = none) (h0 : Γ.H0 D = none) (hot : ∀ vs, o ≠ .tup vs := by intro _ z; cases z) : GK Y (Γ.hold1 D o) :=
  ⟨hK.k, hK.c, hK.f, fun κ' H' st' c ds vs' d gh hx r ed => hK.x κ' H' st' c ds vs' d (Gh.free1 gh nk h0 hot) hx r ed⟩
theorem ve_disp2 (ha : VE Y a ta) (hb : VE Y b tb) (hc : VE Y c tc) (hd : VE Y d td) : VE Y (.Dict [some a, some c] [b, d] pos) (tDisp2 ta tb tc td) := by
  obtain ⟨ra, pa, fa⟩ := ha.ex
  obtain ⟨rb, pb, fb⟩ := hb.ex
  obtain ⟨rc, pc, fc⟩ := hc.ex
  obtain ⟨rd, pd, fd⟩ := hd.ex
  refine ⟨⟨fun E => tDisp [(ra E, rb E), (rc E, rd E)], fun j => pe_disp (pps_cons (pa j) (pb j) (pps_cons (pc j) (pd j) pps_nil)) rfl rfl (by simp) (by simp), fun Γ σ κ H env Q Q' hK I q k => ?_⟩⟩
  intro p hp
  have kp : κ p = none := I.gh.nokap hp
  have hp0 : Γ.H0 p = none := I.gh.nokap0 hp
  have nk : Γ.k0 p = none := by
    cases z : Γ.k0 p with
    | none => rfl
    | some x => have := I.gh.sub p x z; rw [kp] at this; cases this
  have gk := hK.hold1 (D := p) (o := .dK []) nk hp0
  have J0 := (I.upd_new (o := .dK []) hp).hold1 (D := p) (o := .dK []) upd_same kp fun i hi => I.fresh hp i hi
  refine fa (Γ.hold1 p (.dK [])) σ κ _ env _ _ gk J0 q fun v1 κ1 H1 r1 e1 x1 I1 h1 q1 => ?_
  refine fz_ok I1 h1 q1 fun κ2 y1 e2 x2 I2 h2 q2 => ?_
  refine fb (Γ.hold1 p (.dK [])) σ κ2 H1 e2 _ _ gk I2 q2 fun v2 κ3 H3 r3 e3 x3 I3 h3 q3 => ?_
  refine fz_ok I3 h3 q3 fun κ4 y2 e4 x4 I4 h4 q4 => ?_
  refine fc (Γ.hold1 p (.dK [])) σ κ4 H3 e4 _ _ gk I4 q4 fun v3 κ5 H5 r5 e5 x5 I5 h5 q5 => ?_
  refine fz_ok I5 h5 q5 fun κ6 y3 e6 x6 I6 h6 q6 => ?_
  refine fd (Γ.hold1 p (.dK [])) σ κ6 H5 e6 _ _ gk I6 q6 fun v4 κ7 H7 r7 e7 x7 I7 h7 q7 => ?_
  refine fz_ok I7 h7 q7 fun κ8 y4 e8 x8 I8 h8 q8 => ?_
  have g2 := (((((h2.mono x3).mono x4).mono x5).mono x6).mono x7).mono x8
  have g4 := (((h4.mono x5).mono x6).mono x7).mono x8
  have g6 := (h6.mono x7).mono x8
  have x08 := ((((((x1.trans x2).trans x3).trans x4).trans x5).trans x6).trans x7).trans x8
  obtain ⟨J8, k8, hD8, o8⟩ := I8.free1 nk hp0
  cases ek1 : keyD y1 with
  | none => rw [ek1] at q8; exact q8.elim
  | some k1 =>
    cases ek2 : keyD y3 with
    | none => rw [ek1, ek2] at q8; exact q8.elim
    | some k2 =>
      rw [ek1, ek2] at q8
      have w1 : v1 = kV k1 := keyD_rep g2 ek1
      have w3 : v3 = kV k2 := keyD_rep g6 ek2
      refine ⟨hD8, [(k1, v2), (k2, v4)], by simp [w1, w3], by simp, ?_⟩
      have P : PR Γ.K Γ.cls κ8 H7 (putK (putK [] k1 v2) k2 v4) (setK (setK [] k1 y2) k2 y4) := PR.put h8 k2 (PR.put g4 k1 .nil)
      have x9 : Ext κ8 H7 κ8 (upd H7 p (.dK (mergeK [] [(k1, v2), (k2, v4)]))) := Ext.upd k8
      have J9 : Rl Γ κ8 e8 σ (upd H7 p (.dK (mergeK [] [(k1, v2), (k2, v4)]))) := J8.step (st' := e8.st) x9 (fun j c hj => ⟨by obtain ⟨c', _, hc⟩ := J8.ownS hj; exact hc.facts.1, upd_ne fun z => o8 j (z ▸ hj)⟩) (J8.gh.upd k8 hp0)
      have x10 : Ext κ8 (upd H7 p (.dK (mergeK [] [(k1, v2), (k2, v4)]))) (put κ8 p .frz) (upd H7 p (.dK (mergeK [] [(k1, v2), (k2, v4)]))) := Ext.put k8
      have J10 := J9.put_frz (a := p) k8 hp0 (by rw [upd_same]; simp) o8
      have x0 : Ext κ H κ (upd H p (.dK [])) := Ext.upd_new I.gh hp
      refine k _ _ _ (.d (dck2 k1 k2 y2 y4)) e8 (((x0.trans x08).trans x9).trans x10) J10 ?_ q8
      exact dck_rep k8 upd_same (P.mono x9)
/-- d.get(k, x) -/
def tDGK2 (to ti tf : PTE) : PTE := fun x e Q => to x e fun r e1 => hold r e1 fun r e1 => (kgetR r e1).isSome = true ∧ ti x e1 fun ri e2 => fz ri e2 fun kd e2 => tf x e2 fun rd e3 => fz rd e3 fun dd e3 => match kgetR r e3 with
  | some kvs => match keyD kd with
    | some k => Q (.d ((getK kvs k).getD dd)) e3
    | none => False
  | none => False
def mClear : PMu := fun ds as K => match as with
  | [] => K [] .non
  | _ => False
end
end Pu
set_option maxRecDepth 100000
set_option maxHeartbeats 4000000
namespace Pu
open PySem L2 PuE
theorem x_asgZ {i t x D e} : sAsgZ i t x D e = t x e fun r e1 => fz r e1 fun d e2 => i < e2.sl.length ∧ D.nx (e2.setC i (.d d)) := rfl
theorem x_asgK {i t x D e} : sAsgK i t x D e = t x e fun r e1 => kp r e1 fun d e2 => i < e2.sl.length ∧ D.nx (e2.setC i (.d d)) := rfl
def kGD (o : Option D) (e : En) (h : HB (List (List Nat × Int) × (R → En → Prop))) : Prop := match o with
  | some (.str s) => opt (lkT h.b.1 s) (HB.mk (fun n => h.b.2 (.d (.int n)) e) ())
  | _ => False
theorem x_gd {kvs ti x e Q} : tGD kvs ti x e Q = ti x e fun r e1 => kGD (rv r e1) e1 (HB.mk (kvs, Q) ()) := by
  unfold tGD kGD opt
  congr 1; funext r e1
  cases rv r e1 with
  | none => rfl
  | some d =>
    cases d with
    | str s => simp only; cases lkT kvs s <;> rfl
    | _ => rfl
theorem x_kGD {s e kvs Q} : kGD (some (.str s)) e (HB.mk (kvs, Q) ()) = opt (lkT kvs s) (HB.mk (fun n => Q (.d (.int n)) e) ()) := rfl
theorem x_case {f l Q} : pCase f (.str l) [] Q = (l.all (· < 128) = true ∧ l.length ≤ 5592405 ∧ (∀ c ∈ l, f c < 1114112) ∧ Q (.d (.str (l.map f)))) := rfl
def kIMX (ro : R) (e : En) (h : HB (Nat × Str × PTA × PX × PMX × (R → En → Prop))) : Prop := opt (rv ro e) (HB.mk (fun d => noF h.b.1 h.b.2.1 e.st d ∧ h.b.2.2.1 h.b.2.2.2.1 e fun ds e2 => h.b.2.2.2.2.1 (d :: ds) e2.st (fun c st' => h.b.2.2.2.2.2 c.toR ⟨e2.sl, st'⟩) h.b.2.2.2.1) ())
theorem x_imX {c nm m to t x e Q} : tMethX c nm m to t x e Q = to x e fun ro e1 => kIMX ro e1 (HB.mk (c, nm, t, x, m, Q) ()) := by
  unfold tMethX kIMX opt
  congr 1; funext ro e1
  cases rv ro e1 <;> rfl
theorem x_kIMX {ro e c nm t x m Q} : kIMX ro e (HB.mk (c, nm, t, x, m, Q) ()) = opt (rv ro e) (HB.mk (fun d => noF c nm e.st d ∧ t x e fun ds e2 => m (d :: ds) e2.st (fun c st' => Q c.toR ⟨e2.sl, st'⟩) x) ()) := rfl
def lcXH (ds : List D) (e : En) (h : HB (PX × PTG × PTT × PTE × List Nat × (List D → En → Prop))) : Prop := lcRx h.b.1 h.b.2.1 h.b.2.2.1 h.b.2.2.2.1 h.b.2.2.2.2.1 ds [] e h.b.2.2.2.2.2
theorem x_lcX {ti g tt te vs x e Q} : cLcX ti g tt te vs x e Q = ti x e fun items e1 => items.length ≤ sizeLine ∧ plainC e1.sl vs = true ∧ lcXH items (wipeE vs e1) (HB.mk (x, g, tt, te, vs, fun acc e2 => Q (.own acc) (restE vs e1 e2)) ()) := rfl
theorem x_ksr {k e ds} : kset (.d (.ref k)) e ds = ⟨e.sl, e.st.set k (.dK ds)⟩ := rfl
theorem x_msr {k e ds} : mset (.d (.ref k)) e ds = ⟨e.sl, e.st.set k (.lst ds)⟩ := rfl
theorem mg_of {k : Nat} {e : En} {ds : List D} (h : e.st[k]? = some (.lst ds)) : mget (.d (.ref k)) e = some ds := by
  unfold mget
  simp only [h]
def kD2 (o1 o2 : Option Key) (y2 y4 : D) (e : En) (h : HB (R → En → Prop)) : Prop := match o1, o2 with
  | some k1, some k2 => h.b (.d (dck2 k1 k2 y2 y4)) e
  | _, _ => False
theorem x_disp2 {ta tb tc td x e Q} : tDisp2 ta tb tc td x e Q = ta x e fun r1 e1 => fz r1 e1 fun y1 e1 => tb x e1 fun r2 e2 => fz r2 e2 fun y2 e2 => tc x e2 fun r3 e3 => fz r3 e3 fun y3 e3 => td x e3 fun r4 e4 => fz r4 e4 fun y4 e4 => kD2 (keyD y1) (keyD y3) y2 y4 e4 (HB.mk Q ()) := by
  unfold tDisp2 kD2
  rfl
theorem x_kD2 {k1 k2 y2 y4 e Q} : kD2 (some k1) (some k2) y2 y4 e (HB.mk Q ()) = Q (.d (dck2 k1 k2 y2 y4)) e := rfl
def kG2 (o1 : Option (List (Key × D))) (o2 : Option Key) (dd : D) (e : En) (h : HB (R → En → Prop)) : Prop := match o1, o2 with
  | some kvs, some k => h.b (.d ((getK kvs k).getD dd)) e
  | _, _ => False
theorem x_dgk2 {to ti tf x e Q} : tDGK2 to ti tf x e Q = to x e fun r e1 => hold r e1 fun r e1 => (kgetR r e1).isSome = true ∧ ti x e1 fun ri e2 => fz ri e2 fun kd e2 => tf x e2 fun rd e3 => fz rd e3 fun dd e3 => kG2 (kgetR r e3) (keyD kd) dd e3 (HB.mk Q ()) := by
  unfold tDGK2 kG2
  congr 1; funext r e1; congr 1; funext r e1; congr 2; funext ri e2; congr 1; funext kd e2; congr 1; funext rd e3; congr 1; funext dd e3
  cases kgetR r e3 with
  | none => rfl
  | some kvs => cases keyD kd <;> rfl
theorem x_kG2 {kvs k dd e Q} : kG2 (some kvs) (some k) dd e (HB.mk Q ()) = Q (.d ((getK kvs k).getD dd)) e := rfl
theorem x_clear {ds K} : mClear ds [] K = K [] .non := rfl
end Pu
set_option maxRecDepth 100000
set_option maxHeartbeats 4000000
namespace Pu
open PySem L2 PySem.Spec PyProof.Rows
/-- at a a tuple of these texts -/
def KTup (K : PySem.W.Frag) (a : Addr) (ws : List (List Nat)) : Prop := (∃ (o : Obj) (its : Array Value) (n : Nat), K.lookup a = some o ∧ o.cls = .type "tuple" ∧ o.data = .seq its n ∧ its.size ≤ sizeLine ∧ Vals (ws.map fun w => V.str ⟨w.toArray⟩) its.toList) ∧ ∀ w ∈ ws, SOk w
section
variable {Γ Γ' : Gm} {κ κ' : Ka} {H H' : Hp} {env env' : En} {σ : Sl} {v : V} {st : Sto} {Y : Fam} {a b e o i : Expr} {es : List Expr} {ta tb te to ti : PTE} {pos : Pos} {K : PySem.W.Frag}
theorem KTup.sq {d : Addr} {ws : List (List Nat)} (h : KTup K d ws) : SqT K H d (ws.map fun w => V.str ⟨w.toArray⟩) := .inr h.1
theorem repL_strs {cl : Cl} : ∀ {ws : List (List Nat)}, (∀ w ∈ ws, SOk w) → RepL K cl κ H (ws.map fun w => V.str ⟨w.toArray⟩) (ws.map D.str)
  | [], _ => .nil
  | w :: ws, h => .cons (.str w (h w (by simp))) (repL_strs fun u hu => h u (List.mem_cons_of_mem _ hu))
theorem KTup.rep {cl : Cl} {d : Addr} {ws : List (List Nat)} (h : KTup K d ws) : RepL K cl κ H (ws.map fun w => V.str ⟨w.toArray⟩) (ws.map D.str) := repL_strs h.2
theorem src_kt {d : Addr} {ws : List (List Nat)} (h : KTup Γ.K d ws) : Src Γ.K Γ.cls κ H (Itt Γ.K d) (ws.map D.str) := by
  intro Γ2 hK hc
  rw [← hK] at h ⊢
  intro σ κ1 H1 env i I x
  have h1 : SqT Γ2.K H1 d _ := h.sq
  have r : RepL Γ2.K Γ2.cls κ1 H1 _ _ := h.rep
  refine ⟨fun y e => ?_, fun e => ⟨_, h1, by rw [r.length, e]; exact Nat.le_refl _⟩⟩
  obtain ⟨v, e1, r1⟩ := r.get e
  refine ⟨⟨_, v, h1, e1⟩, fun w H' y => ?_⟩
  obtain ⟨rfl, y⟩ := y
  have := y _ h1
  rw [e1] at this
  cases this
  exact ⟨κ1, .refl .., I, r1⟩
theorem kt_of {d : Addr} {ws : List (List Nat)} {its : Array Value} {n : Nat} {dc : Option Addr} {sl : Array (Option Value)} (h : K.lookup d = some ⟨.type "tuple", dc, .seq its n, sl⟩) (hv : Vals (ws.map fun w => V.str ⟨w.toArray⟩) its.toList) (hs : (decide (its.size ≤ 100) && ws.all fun w => decide (w.length ≤ 100) && w.all fun c => decide (c < 1114112)) = true) : KTup K d ws := by
  simp only [Bool.and_eq_true, decide_eq_true_eq, List.all_eq_true] at hs
  refine ⟨⟨_, its, n, h, rfl, rfl, Nat.le_trans hs.1 (by decide), hv⟩, fun w hw => ?_⟩
  have := hs.2 w hw
  exact ⟨Nat.le_trans this.1 (by decide), this.2⟩
theorem kv_nil : Vals (([] : List (List Nat)).map fun w => V.str ⟨w.toArray⟩) [] := .nil
theorem kv_cons {x : Str} {t : Tok} {w : List Nat} {us : List Value} {ws : List (List Nat)} (hx : x = ⟨w.toArray⟩) (r : Vals (ws.map fun w => V.str ⟨w.toArray⟩) us) : Vals ((w :: ws).map fun w => V.str ⟨w.toArray⟩) (.str x t :: us) := .cons ⟨t, by rw [hx]⟩ r
def lkL (kvs : List (List Nat × List (List Nat))) (s : List Nat) : Option (List (List Nat)) := (kvs.find? fun p => p.1 == s).map (·.2)
def GT (K : PySem.W.Frag) (w : World) (d : Addr) (kvs : List (List Nat × List (List Nat))) : Prop := ∀ p ∈ kvs, ∃ a, KDct K w d ⟨p.1.toArray⟩ (.ref a) ∧ KTup K a p.2
theorem gt_nil {w : World} {d : Addr} : GT K w d [] := fun _ h => by cases h
theorem gt_cons {w : World} {d b : Addr} {es : Array DictEntry} {n : Nat} {x : Str} {l : List Nat} {ws : List (List Nat)} {kvs : List (List Nat × List (List Nat))} (h1 : K.lookup d = some ⟨.type "dict", none, .dict es n, #[]⟩) (h2 : PySem.W.KeysLit w.params es.toList) (h3 : PySem.W.nsIn K d x = some (some (.ref b))) (h4 : KTup K b ws)
    (hx : x = ⟨l.toArray⟩) (r : GT K w d kvs) : GT K w d ((l, ws) :: kvs) := fun p hp => by
  rcases List.mem_cons.mp hp with rfl | hp
  · exact ⟨b, ⟨es, n, _, h1, h2, hx ▸ h3, rfl⟩, h4⟩
  · exact r p hp
theorem GT.get {w : World} {d : Addr} {kvs : List (List Nat × List (List Nat))} {s : List Nat} {ws : List (List Nat)} (h : GT K w d kvs) (g : lkL kvs s = some ws) : ∃ a, KDct K w d ⟨s.toArray⟩ (.ref a) ∧ KTup K a ws := by
  unfold lkL at g
  obtain ⟨p, hp, ep⟩ := Option.map_eq_some_iff.mp g
  have h1 := List.find?_some hp
  have z := h p (List.mem_of_find?_eq_some hp)
  rw [show p.1 = s from by simpa using h1, ep] at z
  exact z
/-- for x in NAME[e] -/
def iGT (kvs : List (List Nat × List (List Nat))) (ti : PTE) : PTI := fun x e Q => ti x e fun r e1 => match rv r e1 with
  | some (.str s) => match lkL kvs s with
    | some ws => Q (ws.map D.str) e1
    | none => False
  | _ => False
theorem vi_gt {tg : Expr} {d : Addr} {x : Str} {p : Pos} {kvs : List (List Nat × List (List Nat))} (hw : ∀ j, (Y.X j).w = Y.cls.w) (hm : ∀ j, (Y.X j).mg x = some (.ref d)) (hd : GT Y.K Y.cls.w d kvs) (hi : VE Y i ti) (hg : ∀ j, Gl (Y.X j) x := by intro _; rfl) (hdb : (x == ("__debug__" : Str)) = false := by decide) (hs : PlainIx i := by exact fun _ _ => rfl) :
    VI Y tg (.Subscript (.Name x p) i pos) (iGT kvs ti) := by
  obtain ⟨ri, pi, fi⟩ := hi.ex
  refine ⟨⟨fun E => iTup Y.K (tOp (rIxD Y.K Y.cls.w) (L2.tC (.ref d)) (ri E)), fun j => by
    have z : PE (Y.X j) (.Subscript (.Name x p) i pos) (tOp (rIxD Y.K Y.cls.w) (L2.tC (.ref d)) (ri (Y.E j))) := pe_ix (by have := ix_kdict (X := Y.X j); rw [Y.hK j, hw j] at this; exact this) (pe_glob (hg j) (hm j) (v := .ref d) rfl hdb) (pi j) hs
    have := pi_tup (tg := tg) z; rw [Y.hK j] at this; exact this, fun Γ σ κ H env Q Q' hK I q k => ?_⟩⟩
  refine fi Γ σ κ H env _ _ hK I q fun v κ1 H1 r1 e1 x1 I1 h1 q1 => ?_
  cases e1' : rv r1 e1 with
  | none => rw [e1'] at q1; exact q1.elim
  | some dd =>
    rw [e1'] at q1
    have rt := rv_ok I1 h1 e1'
    cases dd with
    | str s =>
      simp only at q1
      obtain ⟨rfl, _⟩ := Rep.strE rt
      cases g : lkL kvs s with
      | none => rw [g] at q1; exact q1.elim
      | some ws =>
        rw [g] at q1
        obtain ⟨a, z1, z2⟩ := hd.get g
        rw [← hK.k] at z2 ⊢
        refine ⟨d, _, _, rfl, rfl, by rw [hK.k]; exact z1, a, rfl, ⟨_, z2.sq⟩, ?_⟩
        exact k _ κ1 H1 _ e1 x1 I1 (src_kt z2) q1
    | _ => exact q1.elim
/-- for x, y in zip(NAME[e], f) -/
def iZipG (kvs : List (List Nat × List (List Nat))) (ti tb : PTE) : PTI := fun x e Q => ti x e fun r e1 => match rv r e1 with
  | some (.str s) => match lkL kvs s with
    | some ws => tb x e1 fun r2 e2 => fz r2 e2 fun d2 e3 => match d2.side with
      | some (_, es) => Q (zipF (ws.map D.str) es) e3
      | _ => False
    | none => False
  | _ => False
theorem vi_zipG {elts : List Expr} {kk : Nat} {tpos p0 : Pos} {d : Addr} {x : Str} {p spos : Pos} {kvs : List (List Nat × List (List Nat))} (hm0 : ∀ i, (Y.X i).mg "zip" = none) (hw : ∀ j, (Y.X j).w = Y.cls.w) (hm : ∀ j, (Y.X j).mg x = some (.ref d)) (hd : GT Y.K Y.cls.w d kvs) (hi : VE Y i ti) (hb : VE Y b tb)
    (hg0 : ∀ i, Gl (Y.X i) "zip" := by intro _; rfl) (hg : ∀ j, Gl (Y.X j) x := by intro _; rfl) (hdb : (x == ("__debug__" : Str)) = false := by decide) (hs : PlainIx i := by exact fun _ _ => rfl)
    (hst : ∀ X : Cx, starEach [Expr.Subscript (.Name x p) i spos, b] X.env = (false, eval (Expr.Subscript (.Name x p) i spos) X.env) :: starEach [b] X.env := by intro _; rfl)
    (hst2 : ∀ X : Cx, starEach [b] X.env = (false, eval b X.env) :: starEach [] X.env := by intro _; rfl) (hpl : ∀ X : Cx, (backTo pos (starEach [b] X.env)).any (·.1) = false := by intro _; rfl) :
    VI Y (.Tuple elts kk tpos) (.Call (.Name "zip" p0) [.Subscript (.Name x p) i spos, b] [] pos) (iZipG kvs ti tb) := by
  obtain ⟨ri, pi, fi⟩ := hi.ex
  obtain ⟨rb, pb, fb⟩ := hb.ex
  refine ⟨⟨fun E => PuE.iZipB Y.K (L2.tCons (tOp (rIxD Y.K Y.cls.w) (L2.tC (.ref d)) (ri E)) (L2.tCons (rb E) L2.tNil)), fun j => by
    have z : PE (Y.X j) (.Subscript (.Name x p) i spos) (tOp (rIxD Y.K Y.cls.w) (L2.tC (.ref d)) (ri (Y.E j))) := pe_ix (by have := ix_kdict (X := Y.X j); rw [Y.hK j, hw j] at this; exact this) (pe_glob (hg j) (hm j) (v := .ref d) rfl hdb) (pi j) hs
    have := PuE.pi_zipB (elts := elts) (kk := kk) (tpos := tpos) (p := p0) (pos := pos) (hg0 j) (hm0 j) (pa_cons z (pa_cons (pb j) pa_nil (hst2 _)) (hst _)) (hst _) (hpl _)
    rw [Y.hK j] at this; exact this, fun Γ σ κ H env Q Q' hK I q k => ?_⟩⟩
  refine fi Γ σ κ H env _ _ hK I q fun v κ1 H1 r1 e1 x1 I1 h1 q1 => ?_
  cases e1' : rv r1 e1 with
  | none => rw [e1'] at q1; exact q1.elim
  | some dd =>
    rw [e1'] at q1
    have rt := rv_ok I1 h1 e1'
    cases dd with
    | str s =>
      simp only at q1
      obtain ⟨rfl, _⟩ := Rep.strE rt
      cases g : lkL kvs s with
      | none => rw [g] at q1; exact q1.elim
      | some ws =>
        rw [g] at q1
        obtain ⟨a, z1, z2⟩ := hd.get g
        refine ⟨d, _, _, rfl, rfl, z1, ?_⟩
        refine fb Γ σ κ1 H1 e1 _ _ hK I1 q1 fun v2 κ2 H2 r2 e2 x2 I2 h2 q2 => ?_
        refine fz_ok I2 h2 q2 fun κ3 d2 e3 x3 I3 g2 q3 => ?_
        rw [← hK.k] at z2 ⊢
        cases s2 : d2.side with
        | none => rw [s2] at q3; exact q3.elim
        | some p2 =>
          obtain ⟨t2, es⟩ := p2
          rw [s2] at q3
          obtain ⟨c, rfl, w2⟩ := side_ok g2 s2
          obtain ⟨ys, y2, _⟩ := w2 κ3 H2 (.refl ..)
          have w1 : ∀ (κ1 : Ka) (H1 : Hp), Ext κ3 H2 κ1 H1 → ∃ vs, PuE.SqB Γ.K H1 true a vs ∧ RepL Γ.K Γ.cls κ1 H1 vs (ws.map D.str) := fun _ _ _ => ⟨_, z2.sq, z2.rep⟩
          exact ⟨a, c, true, t2, _, ys, rfl, z2.sq, y2, k _ κ3 H2 _ e3 ((x1.trans x2).trans x3) I3 (src_zb (fun d hd => by obtain ⟨w, _, rfl⟩ := List.mem_map.mp hd; rfl) w1 w2) q3⟩
    | _ => exact q1.elim
/-- e in NAME, a tuple of texts -/
def tKIn (neg : Bool) (ws : List (List Nat)) (ta : PTE) : PTE := fun x e Q => ta x e fun r e1 => match rv r e1 with
  | some (.str s) => Q (.d (.bl (if neg then !decide (s ∈ ws) else decide (s ∈ ws)))) e1
  | _ => False
theorem inV_strs (s : List Nat) : ∀ ws : List (List Nat), inV (.str ⟨s.toArray⟩) (ws.map fun w => V.str ⟨w.toArray⟩) = decide (s ∈ ws)
  | [] => rfl
  | w :: ws => by
    have ih := inV_strs s ws
    unfold inV at ih ⊢
    rw [List.map_cons, List.any_cons, ih, show eqV (.str ⟨w.toArray⟩) (.str ⟨s.toArray⟩) = D.eq (.str w) (.str s) from str_beq _ _, e_ss, Bool.eq_iff_iff]
    simp only [Bool.or_eq_true, decide_eq_true_eq, List.mem_cons]
    exact ⟨fun h => h.imp Eq.symm id, fun h => h.imp Eq.symm id⟩
theorem flat_strs : ∀ ws : List (List Nat), (ws.map fun w => V.str ⟨w.toArray⟩).all flatV = true
  | [] => rfl
  | w :: ws => by rw [List.map_cons, List.all_cons, flat_strs ws]; rfl
theorem kin_ref {neg : Bool} {d : Addr} {ws : List (List Nat)} {ri : XK → TE} (h : KTup Y.K d ws)
    (fi : ∀ (Γ : Gm) (σ : Sl) (κ : Ka) (H : Hp) (env : En) (Q : R → En → Prop) (Q' : VK), GK Y Γ → Rl Γ κ env σ H → ta Γ.x env Q → (∀ v κ' H' r env', Ext κ H κ' H' → Rl Γ κ' env' σ H' → RelR Γ κ' H' env' σ v r → Q r env' → Q' v H') → ri Γ.E σ H Q')
    {Q : R → En → Prop} {Q' : VK} (hK : GK Y Γ) (I : Rl Γ κ env σ H) (q : tKIn neg ws ta Γ.x env Q)
    (k : ∀ v κ' H' r env', Ext κ H κ' H' → Rl Γ κ' env' σ H' → RelR Γ κ' H' env' σ v r → Q r env' → Q' v H') :
    tOp (rIn Y.K neg) (ri Γ.E) (L2.tC (.ref d)) σ H Q' := by
  refine fi Γ σ κ H env _ _ hK I q fun v κ1 H1 r1 e1 x1 I1 h1 q1 => ?_
  cases e1' : rv r1 e1 with
  | none => rw [e1'] at q1; exact q1.elim
  | some dd =>
    rw [e1'] at q1
    have rt := rv_ok I1 h1 e1'
    cases dd with
    | str s =>
      simp only at q1
      obtain ⟨rfl, _⟩ := Rep.strE rt
      refine ⟨d, _, rfl, .inr h.sq, rfl, flat_strs ws, ?_⟩
      rw [inV_strs]
      exact k _ κ1 H1 (.d (.bl _)) e1 x1 I1 (.bl _) q1
    | _ => exact q1.elim
theorem vt_kin {d : Addr} {ws : List (List Nat)} {x : Str} {p : Pos} (hm0 : ∀ j, (Y.X j).mg x = some (.ref d)) (hd : KTup Y.K d ws) (ha : VE Y a ta) (hg : ∀ j, Gl (Y.X j) x := by intro _; rfl) (hdb : (x == ("__debug__" : Str)) = false := by decide) (hm : behindInMarks .In (.Name x p) = false := by rfl) :
    VT Y (.Compare a [.In] [.Name x p] pos) (tB (tKIn false ws ta)) := by
  obtain ⟨ra, pa, fa⟩ := ha.ex
  refine ⟨⟨fun E => tTest (tOp (rIn Y.K false) (ra E) (L2.tC (.ref d))), fun j => pt_cmpR (by have := op_in_seq (X := Y.X j); rw [Y.hK j] at this; exact this) (pa j) (pe_glob (hg j) (hm0 j) (v := .ref d) rfl hdb) hm, fun Γ σ κ H env Q Q' hK I q k => ?_⟩⟩
  refine kin_ref hd fa hK I q fun v κ1 H1 r1 e1 x1 I1 h1 q1 => ?_
  obtain ⟨c, rfl, q1⟩ := bl_of (P := fun _ => True) I1 h1 q1
  exact ⟨c, rfl, k c κ1 H1 e1 x1 I1 q1⟩
/-- e in NAME, a dict of the module with text keys; asked of what is in it alone -/
def tKHas (ks : List (List Nat)) (ta : PTE) : PTE := fun x e Q => ta x e fun r e1 => match rv r e1 with
  | some (.str s) => s ∈ ks ∧ Q (.d (.bl true)) e1
  | _ => False
def rKHas (K : PySem.W.Frag) (d : Addr) : R2 := fun x y H Q => ∃ (z : Str) (r : Option Value), x = .str z ∧ y = .ref d ∧ PySem.W.nsIn K d z = some r ∧ Q (.bl r.isSome) H
def KHas (K : PySem.W.Frag) (w : World) (d : Addr) (ks : List (List Nat)) : Prop := (∃ es n, KDict K w d es n) ∧ ∀ s ∈ ks, ∃ u, PySem.W.nsIn K d ⟨s.toArray⟩ = some (some u)
theorem khas_nil {w : World} {d : Addr} {es : Array DictEntry} {n : Nat} (h1 : K.lookup d = some ⟨.type "dict", none, .dict es n, #[]⟩) (h2 : PySem.W.KeysLit w.params es.toList) (h3 : (d == sysModules) = false) : KHas K w d [] := ⟨⟨es, n, h1, h2, h3⟩, fun _ h => by cases h⟩
theorem khas_cons {w : World} {d : Addr} {ks : List (List Nat)} {l : List Nat} {x : Str} {u : Value} (h3 : PySem.W.nsIn K d x = some (some u)) (hx : x = ⟨l.toArray⟩) (r : KHas K w d ks) : KHas K w d (l :: ks) :=
  ⟨r.1, fun s hs => (List.mem_cons.mp hs).elim (fun z => ⟨u, by rw [z, ← hx]; exact h3⟩) (r.2 s)⟩
theorem ve_khas {d : Addr} {ks : List (List Nat)} {x : Str} {p : Pos} (hw : ∀ j, (Y.X j).w = Y.cls.w) (hm0 : ∀ j, (Y.X j).mg x = some (.ref d)) (hd : KHas Y.K Y.cls.w d ks) (ha : VE Y a ta) (hg : ∀ j, Gl (Y.X j) x := by intro _; rfl) (hdb : (x == ("__debug__" : Str)) = false := by decide) (hm : behindInMarks .In (.Name x p) = false := by rfl) :
    VE Y (.Compare a [.In] [.Name x p] pos) (tKHas ks ta) := by
  obtain ⟨ra, pa, fa⟩ := ha.ex
  obtain ⟨⟨es, n, D0⟩, hk⟩ := hd
  refine ⟨⟨fun E => tOp (rKHas Y.K d) (ra E) (L2.tC (.ref d)), fun j => pe_cmpR (by have := op_in_kd (X := Y.X j) (d := d) (es := es) (n := n) (by rw [Y.hK j, hw j]; exact D0); rw [Y.hK j] at this; exact this) (pa j) (pe_glob (hg j) (hm0 j) (v := .ref d) rfl hdb) hm, fun Γ σ κ H env Q Q' hK I q k => ?_⟩⟩
  refine fa Γ σ κ H env _ _ hK I q fun v κ1 H1 r1 e1 x1 I1 h1 q1 => ?_
  cases e1' : rv r1 e1 with
  | none => rw [e1'] at q1; exact q1.elim
  | some dd =>
    rw [e1'] at q1
    have rt := rv_ok I1 h1 e1'
    cases dd with
    | str s =>
      simp only at q1
      obtain ⟨rfl, _⟩ := Rep.strE rt
      obtain ⟨u, hu⟩ := hk s q1.1
      exact ⟨_, _, rfl, rfl, hu, k _ κ1 H1 (.d (.bl true)) e1 x1 I1 (.bl true) q1.2⟩
    | _ => exact q1.elim
end
end Pu
set_option maxRecDepth 100000
set_option maxHeartbeats 4000000
namespace PuE
open PySem PySem.Spec PyProof.Rows L2
def rSplit1 (_ : PySem.W.Frag) : V → List V → Hp → VK → Prop := fun x xs H Q => ∃ (a b : Str) (k : Int), x = .str a ∧ xs = [.str b, .int k] ∧ (b.length == 0) = false ∧ -(2 ^ 63) ≤ k ∧ k < 2 ^ 63 ∧ a.length + 2 ≤ sizeLine ∧ rNewStrs (Txt.splitMax a b k) H Q
theorem splitMax1 {x y : Str} (hy : TL.tl y ≠ []) (hk : y.cps.all (· < 256) = true) : Txt.splitMax x y 1 = match TL.par (TL.tl y) [] (TL.tl x) with | some (a, b) => [⟨a.toArray⟩, ⟨b.toArray⟩] | none => [x] := by
  have P := TL.partition_par x y hy
  have L := PySem.StrLaws.occ_length_le x y 0 x.length 1
  have S := PySem.StrLaws.occ_spec x y 0 x.length 1
  have hk' := TL.kind_ok (x := x) hk
  have ye : y ≠ Str.empty := fun z => hy (by rw [z]; rfl)
  unfold Txt.partition at P
  unfold Txt.splitMax
  have el : limitOf x 1 = 1 := rfl
  rw [el]
  cases ho : Builtin.Str.occurrences x y 0 x.length 1 with
  | nil =>
    rw [ho] at P
    cases hp : TL.par (TL.tl y) [] (TL.tl x) with
    | none => simp
    | some p =>
      rw [hp] at P
      have := congrArg (fun z => z.2.1) P
      exact absurd this.symm ye
  | cons i r =>
    rw [ho] at P L S
    have hr : r = [] := by
      cases r with
      | nil => rfl
      | cons _ _ => simp at L
    subst hr
    have hi := (S i (by simp)).1
    have e1 : (decide (x.length < y.length) || decide (Builtin.Str.strKind x < Builtin.Str.strKind y)) = false := by
      rw [decide_eq_false hk', decide_eq_false (by omega)]; rfl
    rw [e1]
    cases hp : TL.par (TL.tl y) [] (TL.tl x) with
    | none =>
      rw [hp] at P
      have := congrArg (fun z => z.2.1) P
      exact absurd this ye
    | some p =>
      obtain ⟨a, b⟩ := p
      rw [hp] at P
      injection P with p1 p2
      injection p2 with p2 p3
      show _ = [(⟨a.toArray⟩ : Str), ⟨b.toArray⟩]
      rw [← p1, ← p3]
      rfl
end PuE
namespace Pu
open PySem L2 PuE
section
variable {Γ Γ' : Gm} {κ κ' : Ka} {H H' : Hp} {env env' : En} {σ : Sl} {v : V} {st : Sto} {Y : Fam} {a b c d e e2 o : Expr} {es : List Expr} {ta tb tc td te to : PTE} {pos : Pos}
def par1 (s l : List Nat) : List (List Nat) := match TL.par s [] l with
  | some (a, b) => [a, b]
  | none => [l]
def pSplit1 (d : D) (ds : List D) (Q : R → Prop) : Prop := match d, ds with
  | .str l, [.str s, .int k] => k = 1 ∧ s ≠ [] ∧ s.all (· < 256) = true ∧ l.length + 2 ≤ 16777216 ∧ Q (.own ((par1 s l).map D.str))
  | _, _ => False
theorem par_mem (s : List Nat) : ∀ (l acc : List Nat) {a b : List Nat}, TL.par s acc l = some (a, b) → (a.length ≤ acc.length + l.length ∧ ∀ c ∈ a, c ∈ acc ∨ c ∈ l) ∧ b.length ≤ l.length ∧ ∀ c ∈ b, c ∈ l
  | [], acc, a, b, h => by cases h
  | x :: r, acc, a, b, h => by
    unfold TL.par at h
    split at h
    · cases h
      refine ⟨⟨by omega, fun c hc => .inl hc⟩, by rw [List.length_drop]; omega, fun c hc => List.mem_of_mem_drop hc⟩
    · obtain ⟨⟨h1, h2⟩, h3, h4⟩ := par_mem s r (acc ++ [x]) h
      rw [List.length_append, List.length_singleton] at h1
      refine ⟨⟨by rw [List.length_cons]; omega, fun c hc => ?_⟩, by rw [List.length_cons]; omega, fun c hc => List.mem_cons_of_mem _ (h4 c hc)⟩
      rcases h2 c hc with z | z
      · rcases List.mem_append.mp z with z | z
        · exact .inl z
        · rw [List.mem_singleton] at z; exact .inr (by simp [z])
      · exact .inr (List.mem_cons_of_mem _ z)
theorem ref_split1 : MtRef "str" rSplit1 pSplit1 := by
  intro Γ σ κ H env v d vs ds Q Q' I hd hs q k
  match d, ds, vs, hd, hs, q with
  | .str l, [.str s, .int j], _, hd, .cons hx (.cons hj .nil), q =>
    obtain ⟨rfl, hl⟩ := Rep.strE hd
    obtain ⟨rfl, hsx⟩ := Rep.strE hx
    cases hj
    obtain ⟨rfl, q1, q2, q3, q4⟩ := q
    refine ⟨_, _, 1, rfl, rfl, ?_, by decide, by decide, ?_, fun p hp => ?_⟩
    · rw [str_len]
      cases s with
      | nil => exact absurd rfl q1
      | cons c s => rfl
    · rw [str_len, sizeLine_eq]; exact q3
    · have e : Txt.splitMax (⟨l.toArray⟩ : Str) (⟨s.toArray⟩ : Str) 1 = (par1 s l).map fun l => (⟨l.toArray⟩ : Str) := by
        rw [splitMax1 (x := ⟨l.toArray⟩) (y := ⟨s.toArray⟩) q1 (by simpa using q2)]
        show (match TL.par s [] l with | some (a, b) => [(⟨a.toArray⟩ : Str), ⟨b.toArray⟩] | none => [⟨l.toArray⟩]) = _
        unfold par1
        cases TL.par s [] l with
        | none => rfl
        | some p => rfl
      rw [e]
      have hm : (par1 s l).length ≤ 2 ∧ ∀ m ∈ par1 s l, SOk m := by
        unfold par1
        cases hp : TL.par s [] l with
        | none => exact ⟨by simp, fun m hm => by rw [List.mem_singleton] at hm; exact hm ▸ hl⟩
        | some p =>
          obtain ⟨a, b⟩ := p
          obtain ⟨⟨h1, h2⟩, h3, h4⟩ := par_mem s l [] hp
          have := hl.1
          refine ⟨by simp, fun m hm => ?_⟩
          have : m = a ∨ m = b := by simpa using hm
          rcases this with rfl | rfl
          · exact ⟨by rw [List.length_nil] at h1; omega, fun c hc => (h2 c hc).elim (fun z => by cases z) (hl.2 c)⟩
          · exact ⟨by omega, fun c hc => hl.2 c (h4 c hc)⟩
      refine k _ κ _ (.own _) (Ext.upd_new I.gh hp) (I.upd_new hp) (new_lst I hp ?_ (rep_strsX fun m h => hm.2 m h)) q4
      rw [List.length_map, List.length_map, sizeLine_eq]; have := hm.1; omega
theorem ve_split1 {apos cpos : Pos} {t : PTR} (ho : VE Y o to) (ha : VR Y [e, e2] t) (hbase : ∀ X : Cx, attributeBase o "split" X.env (eval o X.env) = eval o X.env := by intro _; rfl)
    (hfew : ∀ X : Cx, ((backTo cpos (starEach [e, e2] X.env)).all (fun x => !x.1) && (backToKw cpos (keywordEach [] X.env)).all (fun x => x.1.isSome)
      && decide (([e, e2] : List Expr).length + ([] : List Keyword).length + (if ([] : List Keyword).isEmpty then 0 else 1) < 30)) = true := by intro _; rfl)
    (hline : (apos.endLine == cpos.line) = true := by rfl) (hs : ∀ X : Cx, starEach [e, e2] X.env = (false, eval e X.env) :: starEach [e2] X.env := by intro _; rfl) (hpl : ∀ X : Cx, (backTo cpos (starEach [e2] X.env)).any (·.1) = false := by intro _; rfl) :
    VE Y (.Call (.Attribute o "split" apos) [e, e2] [] cpos) (tMeth "str" pSplit1 to t) :=
  ve_meth PySem.F.plainAttrs_str PySem.F.slot_str_split PySem.F.type_str_split (fun _ => mt_splitMax) ref_split1 ho ha hbase hfew hline hs hpl
def pStrA : List D → (R → Prop) → Prop
  | [.int i], Q => 0 ≤ i ∧ i < 2 ^ 64 ∧ Q (.d (.str (TL.numL i.toNat)))
  | [.str s], Q => Q (.d (.str s))
  | _, _ => False
def rStrA : List V → Hp → VK → Prop := fun xs H Q => (∃ i, xs = [.int i] ∧ i.natAbs.log2 < 1920 ∧ Q (.str (toString i)) H) ∨ ∃ a, xs = [.str a] ∧ Q (.str a) H
theorem call_strA {X : Cx} : CallR X (.type "str") rStrA := by
  intro pins s σ H xs us Q I r h
  rcases h with h | h
  · exact call_str_int pins s σ H xs us Q I r h
  · exact SkE.call_str_str pins s σ H xs us Q I r h
theorem ref_strA : CallRef (fun _ => rStrA) pStrA := by
  intro Γ σ κ H env vs ds Q Q' I h q k
  match ds, vs, h, q with
  | [.int i], _, .cons h .nil, q => exact .inl (ref_strI Γ σ κ H env _ _ Q Q' I (.cons h .nil) q k)
  | [.str s], _, .cons h .nil, q =>
    obtain ⟨rfl, hs⟩ := Rep.strE h
    exact .inr ⟨_, rfl, k _ κ H (.d (.str s)) (.refl ..) I (.str _ hs) q⟩
theorem ve_strA {p' : Pos} {t : PTR} (hm : ∀ i, (Y.X i).mg "str" = none) (ha : VR Y [e] t) (hg : ∀ i, Gl (Y.X i) "str" := by intro _; rfl) (he : ∀ X : Cx, starEach [e] X.env = (false, eval e X.env) :: starEach [] X.env := by intro _; rfl) : VE Y (.Call (.Name "str" p') [e] [] pos) (tCallP pStrA t) :=
  ve_callTy (r := fun _ => rStrA) (fun _ => call_strA) ref_strA hm ha hg (he := he)
end
end Pu
set_option maxRecDepth 100000
set_option maxHeartbeats 4000000
namespace Pu
open PySem L2 PuE
def kKI (o : Option D) (e : En) (h : HB (Bool × List (List Nat) × (R → En → Prop))) : Prop := match o with
  | some (.str s) => h.b.2.2 (.d (.bl (if h.b.1 then !decide (s ∈ h.b.2.1) else decide (s ∈ h.b.2.1)))) e
  | _ => False
theorem x_kin {neg ws ta x e Q} : tKIn neg ws ta x e Q = ta x e fun r e1 => kKI (rv r e1) e1 (HB.mk (neg, ws, Q) ()) := by
  unfold tKIn kKI
  congr 1
theorem x_kKI {s e ws Q} : kKI (some (.str s)) e (HB.mk (false, ws, Q) ()) = Q (.d (.bl (decide (s ∈ ws)))) e := rfl
def kKH (o : Option D) (e : En) (h : HB (List (List Nat) × (R → En → Prop))) : Prop := match o with
  | some (.str s) => s ∈ h.b.1 ∧ h.b.2 (.d (.bl true)) e
  | _ => False
theorem x_khas {ks ta x e Q} : tKHas ks ta x e Q = ta x e fun r e1 => kKH (rv r e1) e1 (HB.mk (ks, Q) ()) := by
  unfold tKHas kKH
  congr 1
theorem x_kKH {s e ks Q} : kKH (some (.str s)) e (HB.mk (ks, Q) ()) = (s ∈ ks ∧ Q (.d (.bl true)) e) := rfl
def kIG (o : Option D) (e : En) (h : HB (List (List Nat × List (List Nat)) × (List (List Nat) → En → Prop))) : Prop := match o with
  | some (.str s) => opt (lkL h.b.1 s) (HB.mk (fun ws => h.b.2 ws e) ())
  | _ => False
theorem x_igt {kvs ti x e Q} : iGT kvs ti x e Q = ti x e fun r e1 => kIG (rv r e1) e1 (HB.mk (kvs, fun ws e2 => Q (ws.map D.str) e2) ()) := by
  unfold iGT kIG opt
  congr 1; funext r e1
  cases rv r e1 with
  | none => rfl
  | some d =>
    cases d with
    | str s => simp only; cases lkL kvs s <;> rfl
    | _ => rfl
theorem x_izg {kvs ti tb x e Q} : iZipG kvs ti tb x e Q = ti x e fun r e1 => kIG (rv r e1) e1 (HB.mk (kvs, fun ws e2 => tb x e2 fun r2 e3 => fz r2 e3 fun d2 e4 => sideH d2 (HB.mk (fun es => Q (zipF (ws.map D.str) es) e4) ())) ()) := by
  unfold iZipG kIG opt
  congr 1; funext r e1
  cases rv r e1 with
  | none => rfl
  | some d =>
    cases d with
    | str s =>
      simp only
      cases lkL kvs s with
      | none => rfl
      | some ws =>
        simp only
        congr 1; funext r2 e3
        congr 1; funext d2 e4
        unfold sideH
        cases d2.side with
        | none => rfl
        | some p => rfl
    | _ => rfl
theorem x_kIG {s e kvs Q} : kIG (some (.str s)) e (HB.mk (kvs, Q) ()) = opt (lkL kvs s) (HB.mk (fun ws => Q ws e) ()) := rfl
theorem x_split1 {l s k Q} : pSplit1 (.str l) [.str s, .int k] Q = (k = 1 ∧ s ≠ [] ∧ s.all (· < 256) = true ∧ l.length + 2 ≤ 16777216 ∧ Q (.own ((par1 s l).map D.str))) := rfl
theorem x_strAi {i Q} : pStrA [.int i] Q = (0 ≤ i ∧ i < 2 ^ 64 ∧ Q (.d (.str (TL.numL i.toNat)))) := rfl
theorem x_strAs {s Q} : pStrA [.str s] Q = Q (.d (.str s)) := rfl
end Pu
set_option maxRecDepth 100000
set_option maxHeartbeats 4000000
namespace Pu
open PySem L2
def IsL (c : Nat) : Prop := (65 ≤ c ∧ c ≤ 90) ∨ (97 ≤ c ∧ c ≤ 122)
instance (c : Nat) : Decidable (IsL c) := by unfold IsL; infer_instance
def con (c : Nat) : Nat := if 97 ≤ c then c - 32 else c + 32
theorem con_con {c : Nat} (h : IsL c) : con (con c) = c := by unfold con IsL at *; split <;> split <;> omega
theorem con_L {c : Nat} (h : IsL c) : IsL (con c) := by unfold con IsL at *; split <;> omega
theorem con_ne {c : Nat} (h : IsL c) : con c ≠ c := by unfold con IsL at *; split <;> omega
end Pu
set_option maxRecDepth 100000
set_option maxHeartbeats 4000000
namespace Pu
open PySem L2
def m_law_take : PM := fun ds st Q => match ds with
  | [.box, .int n] => 0 < n ∧ n < 2 ^ 64 ∧ ∀ d : Int, 0 ≤ d → d < n → Q (.d (.int d)) st
  | _ => False
/-- _law_take: slots _law_box_here, _law_many, _law_one, _law_digit -/
def t_law_take : PTS := sSeq (sIf (tB (t2 (t2 (tName 0) (tD (.int 0)) pIx) (tD (.int 0)) pGt)) (sSeq (sAsg 3 (t2 (t2 (tName 0) (tD (.int 0)) pIx) (tName 1) pMod)) (sSeq (sSetIx (t2 (t2 (tName 0) (tD (.int 0)) pIx) (tName 1) pFdiv) (tName 0) (tD (.int 0))) (sRet (tName 3)))) (sNext)) (sSeq (sAsg 2 (t2 (t2 (t2 (tName 0) (tD (.int 1)) pIx) (tD (.int 69623)) pMul) (tD (.int 2147483647)) pMod)) (sSeq (sSetIx (t2 (t2 (t2 (t2 (tName 2) (tD (.int 48271)) pMul) (tD (.int 30103)) pAdd) (tD (.int 2147483629)) pMod) (tD (.int 1)) pAdd) (tName 0) (tD (.int 1))) (sRet (t2 (t2 (t2 (t2 (tName 2) (tD (.int 2147483647)) pMul) (t2 (tName 0) (tD (.int 1)) pIx) pAdd) (tD (.int 8191)) pFdiv) (tName 1) pMod))))
abbrev N_law_take : List Str := ["_law_box_here", "_law_many", "_law_one", "_law_digit"]
theorem len_law_take (ds : List D) (s : Sto) (Q : C → Sto → Prop) (h : m_law_take ds s Q) : ds.length = 2 := by
  unfold m_law_take at h
  split at h
  · rfl
  · exact h.elim
theorem small_log {n : Int} (h0 : 0 < n) (h : n < 2 ^ 64) : CDivW 0 n := by
  refine ⟨h0, ?_⟩
  have : n.natAbs.log2 < 64 := (Nat.log2_lt (by omega)).mpr (by omega)
  omega
theorem cmul_r (i j : Int) (h1 : -(2 ^ 64) < j := by decide) (h2 : j < 2 ^ 64 := by decide) : CMul i j := .inr ⟨h1, h2⟩
theorem cmul_l (i j : Int) (h1 : -(2 ^ 64) < i := by decide) (h2 : i < 2 ^ 64 := by decide) : CMul i j := .inl ⟨h1, h2⟩
theorem lt_of (a b : Nat) (h : a < b := by decide) : a < b := h
theorem p0 (a : Nat) (h : 0 < a := by decide) : (0 : Int) < (a : Int) := by omega
theorem ite_intro {c : Prop} [Decidable c] {a b : Prop} (h1 : c → a) (h2 : ¬ c → b) : if c then a else b := by
  by_cases h : c
  · rw [if_pos h]; exact h1 h
  · rw [if_neg h]; exact h2 h
theorem le_line (n : Nat) (h : n ≤ 16777216 := by decide) : n ≤ sizeLine := by rw [line_eq]; exact h
theorem p_law_take (ds : List D) (s : Sto) (Q : C → Sto → Prop) (h : m_law_take ds s Q) : t_law_take noX { nx := fun e => Q (.d .non) e.st, rt := fun c e => Q c e.st } ⟨startC N_law_take ds, s⟩ := by
  unfold m_law_take at h
  split at h
  · rename_i n
    obtain ⟨h0, h1, q⟩ := h
    have hq : ∀ i : Int, Q (.d (.int (i % n))) s := fun i => q _ (Int.emod_nonneg _ (by omega)) (Int.emod_lt_of_pos _ h0)
    refine ⟨.inl rfl, fun z => ?_⟩
    show if decide (z > 0) = true then _ else _
    split
    · refine ⟨.inl rfl, fun z1 => ⟨h0, lt_of 3 4, ?_⟩⟩
      refine ⟨.inl rfl, fun z2 => ⟨⟨h0, (small_log h0 h1).2⟩, ⟨.inl rfl, ?_⟩⟩⟩
      exact hq z1
    · refine ⟨.inr rfl, fun z1 => ⟨cmul_r _ _, p0 2147483647, lt_of 2 4, ?_⟩⟩
      refine ⟨cmul_r _ _, p0 2147483629, ⟨.inr rfl, ?_⟩⟩
      refine ⟨cmul_r _ _, .inr rfl, fun z2 => ⟨⟨by decide, by decide⟩, h0, ?_⟩⟩
      exact hq _
  · exact h.elim
def mb_law_box : PM := fun ds st Q => match ds with
  | [.scr n, .int k] => 0 ≤ k ∧ k < 2 ^ 40 ∧ ∀ i j : Int, Q (.own [.int i, .int j]) st
  | _ => False
def m_law_box : PM := fun ds st Q => match ds with
  | [.scr n, .int k] => 0 ≤ k ∧ k < 2 ^ 40 ∧ Q (.d .box) st
  | _ => False
theorem len_law_box (ds : List D) (s : Sto) (Q : C → Sto → Prop) (h : mb_law_box ds s Q) : ds.length = 2 := by
  unfold mb_law_box at h
  split at h
  · rfl
  · exact h.elim
theorem box_law_box (ds : List D) (s : Sto) (Q : C → Sto → Prop) (h : m_law_box ds s Q) : boxed mb_law_box ds s Q := by
  unfold m_law_box at h
  split at h
  · exact ⟨h.1, h.2.1, fun i j => ⟨i, j, rfl, h.2.2⟩⟩
  · exact h.elim
def t_law_box : PTS := sSeq (sAsg 2 (t2 (t2 (tD (.int 7919)) (tName 1) pMul) (tD (.int 11)) pAdd)) (sSeq (sIf (tB (t2 (tName 1) (tCallP pLen (rCons (tName 0) (rNil))) pLt)) (sAsg 2 (t2 (tName 0) (tName 1) pIx)) (sIf (tB (t2 (tCallP pLen (rCons (tName 0) (rNil))) (tD (.int 0)) pGt)) (sAsg 2 (t2 (tName 2) (t2 (t2 (t2 (tName 0) (t2 (tName 1) (tCallP pLen (rCons (tName 0) (rNil))) pMod) pIx) (tD (.int 2147483629)) pMod) (tD (.int 69623)) pMul) pAdd)) (sNext))) (sSeq (sAsg 3 (t2 (t2 (t2 (t2 (t2 (tName 2) (tD (.int 2147483629)) pMod) (t2 (tD (.int 104729)) (tName 1) pMul) pAdd) (tD (.int 1)) pAdd) (tD (.int 5)) pPow) (tD (.int 2147483647)) pMod)) (sRet (tLst (tCons (t2 (tLst (tCons (tD (.int 0)) (tCons (tName 2) (tNil)))) (tCallP pInt (rCons (t2 (tName 2) (t2 (tD (.int 10)) (tD (.int 18)) pPow) pGe) (rNil))) pIx) (tCons (t2 (t2 (tName 3) (tD (.int 2147483646)) pMod) (tD (.int 1)) pAdd) (tNil)))))))
abbrev N_law_box : List Str := ["_law_script", "_law_k", "_law_cell", "_law_seed"]
theorem p_law_box (ds : List D) (s : Sto) (Q : C → Sto → Prop) (h : mb_law_box ds s Q) : t_law_box noX { nx := fun e => Q (.d .non) e.st, rt := fun c e => Q c e.st } ⟨startC N_law_box ds, s⟩ := by
  unfold mb_law_box at h
  split at h
  · rename_i n k
    obtain ⟨h0, h1, q⟩ := h
    have tail : ∀ z : Int, sSeq (sAsg 3 (t2 (t2 (t2 (t2 (t2 (tName 2) (tD (.int 2147483629)) pMod) (t2 (tD (.int 104729)) (tName 1) pMul) pAdd) (tD (.int 1)) pAdd) (tD (.int 5)) pPow) (tD (.int 2147483647)) pMod)) (sRet (tLst (tCons (t2 (tLst (tCons (tD (.int 0)) (tCons (tName 2) (tNil)))) (tCallP pInt (rCons (t2 (tName 2) (t2 (tD (.int 10)) (tD (.int 18)) pPow) pGe) (rNil))) pIx) (tCons (t2 (t2 (tName 3) (tD (.int 2147483646)) pMod) (tD (.int 1)) pAdd) (tNil))))) noX { nx := fun e => Q (.d .non) e.st, rt := fun c e => Q c e.st } ⟨[.d (.scr n), .d (.int k), .d (.int z), .un], s⟩ := by
      intro z
      have m0 := Int.emod_nonneg z (b := 2147483629) (by omega)
      have m1 := Int.emod_lt_of_pos z (b := 2147483629) (by omega)
      refine ⟨p0 2147483629, cmul_l _ _, ⟨by decide, by decide, ?_⟩, p0 2147483647, lt_of 3 4, ?_⟩
      · omega
      refine ⟨le_line 2, ⟨by decide, by decide, by decide⟩, ?_⟩
      show (match atI [D.int 0, D.int z] (if decide (10 ^ 18 ≤ z) then 1 else 0) with | some y => _ | none => _)
      cases decide (10 ^ 18 ≤ z)
      · refine ⟨p0 2147483646, le_line 2, ?_⟩
        exact q 0 _
      · refine ⟨p0 2147483646, le_line 2, ?_⟩
        exact q z _
    refine ⟨cmul_l _ _, lt_of 2 4, ?_⟩
    refine ite_intro (fun c => ?_) fun c => ?_
    · have c := of_decide_eq_true c
      exact ⟨⟨h0, c⟩, fun z => ⟨lt_of 2 4, tail z⟩⟩
    · refine ite_intro (fun c' => ?_) fun c' => tail _
      have c' : (0 : Int) < n := of_decide_eq_true c'
      refine ⟨c', ⟨Int.emod_nonneg _ (by omega), Int.emod_lt_of_pos _ c'⟩, fun z => ⟨p0 2147483629, cmul_r _ _, lt_of 2 4, tail _⟩⟩
  · exact h.elim
def turn (w : List Nat) : List Nat := (w.map con).reverse
def IsW (w : List Nat) : Prop := ∀ c ∈ w, IsL c
theorem SMCP_L {c : Nat} (h : c ∈ SMCP) : IsL c := by
  have key : ∀ c ∈ SMCP, IsL c := by decide +kernel
  exact key c h
end Pu
set_option maxRecDepth 100000
set_option maxHeartbeats 4000000
namespace Pu
open PySem L2
/-- the letters that are left, the ends that are taken -/
structure Yi (left ends : List Nat) (j : Nat) : Prop where
  nl : left.Nodup
  sm : ∀ c ∈ left, 97 ≤ c ∧ c ≤ 122
  ne : ends.Nodup
  le : ∀ c ∈ ends, IsL c ∧ con c ∈ ends ∧ c ∉ left ∧ con c ∉ left
  l1 : left.length + j = 26
  l2 : ends.length = 2 * j
theorem not_mem_erase {l : List Nat} (h : l.Nodup) {j : Nat} (hj : j < l.length) : l[j] ∉ l.eraseIdx j := by
  induction l generalizing j with
  | nil => simp at hj
  | cons a l ih =>
    rw [List.nodup_cons] at h
    cases j with
    | zero => simpa using h.1
    | succ j =>
      simp only [List.getElem_cons_succ, List.eraseIdx_cons_succ, List.mem_cons, not_or]
      have hj' : j < l.length := by simpa using hj
      exact ⟨fun e => h.1 (e ▸ List.getElem_mem hj'), ih h.2 hj'⟩
theorem mem_of_erase {l : List Nat} {j c : Nat} (h : c ∈ l.eraseIdx j) : c ∈ l := List.mem_of_mem_eraseIdx h
theorem Yi.step {left ends : List Nat} {j k : Nat} (h : Yi left ends j) (hk : k < left.length) : Yi (left.eraseIdx k) (ends ++ [left[k], con left[k]]) (j + 1) := by
  have hm : left[k] ∈ left := List.getElem_mem hk
  have hs := h.sm _ hm
  generalize hc : left[k] = c at hm hs
  have hcl : IsL c := .inr hs
  have hcon : con c < 97 := by unfold con; split <;> omega
  have nc : ∀ l : List Nat, (∀ x ∈ l, x ∈ left) → con c ∉ l := fun l hl z => by have := h.sm _ (hl _ z); omega
  have n1 : c ∉ ends := fun z => (h.le c z).2.2.1 hm
  have n2 : con c ∉ ends := fun z => by
    have := (h.le _ z).2.2.2
    rw [con_con hcl] at this
    exact this hm
  have e1 : c ∉ left.eraseIdx k := by rw [← hc]; exact not_mem_erase h.nl hk
  refine ⟨h.nl.sublist (List.eraseIdx_sublist ..), fun c hc => h.sm c (mem_of_erase hc), ?_, fun x hx => ?_, ?_, ?_⟩
  · rw [List.nodup_append]
    refine ⟨h.ne, ?_, ?_⟩
    · simp only [List.nodup_cons, List.mem_singleton, List.not_mem_nil, not_false_eq_true, List.nodup_nil, and_true]
      exact fun z => con_ne hcl z.symm
    · intro a ha b hb z
      subst z
      simp only [List.mem_cons, List.not_mem_nil, or_false] at hb
      rcases hb with rfl | rfl
      · exact n1 ha
      · exact n2 ha
  · rw [List.mem_append] at hx
    rcases hx with hx | hx
    · obtain ⟨g1, g2, g3, g4⟩ := h.le x hx
      exact ⟨g1, List.mem_append_left _ g2, fun z => g3 (mem_of_erase z), fun z => g4 (mem_of_erase z)⟩
    · simp only [List.mem_cons, List.not_mem_nil, or_false] at hx
      rcases hx with rfl | rfl
      · exact ⟨hcl, by simp, e1, nc _ fun x hx => mem_of_erase hx⟩
      · exact ⟨con_L hcl, by rw [con_con hcl]; simp, nc _ fun x hx => mem_of_erase hx, by rw [con_con hcl]; exact e1⟩
  · rw [List.length_eraseIdx_of_lt hk]; have := h.l1; omega
  · rw [List.length_append]; have := h.l2; simp; omega
end Pu
set_option maxRecDepth 100000
set_option maxHeartbeats 4000000
namespace Pu
open PySem L2
local macro_rules | `(tactic| simpa?! only [$xs,*]) => `(tactic| simp -dsimp only [↓opt_some, ↓br_true, ↓br_false, ↓nameC_d, ↓nameC_own, ↓nameC_dK, ↓nameC_dT, ↓x_name, ↓fzC_d, ↓fzC_own, ↓fzC_dK, ↓fzC_dT, ↓x_fzn, ↓x_fzK, ↓x_fzT, ↓x_fzd, ↓x_fzo, ↓x_rvn, ↓x_rvd, ↓x_rvo, ↓retC_d, ↓retC_own, ↓x_retn, ↓x_retd, ↓x_reto, ↓x_hd, ↓x_ho, ↓x_hn, ↓x_ad, ↓x_ao, ↓x_an, ↓x_set, ↓x_seq, ↓x_next, ↓x_break, ↓x_cont, ↓x_drop, ↓x_ret, ↓x_retN, ↓x_if, ↓x_asg, ↓x_asgG, ↓x_while, ↓x_for, ↓x_2, ↓x_k2ad, ↓x_k2ao, ↓x_k2an, ↓x_k2b, ↓x_k2c, ↓x_1, ↓x_k1c, ↓x_D, ↓bC_b, ↓x_B, ↓x_kBc, ↓x_and, ↓x_kAn, ↓x_or, ↓x_kOr, ↓x_not, ↓x_kNo, ↓x_andV, ↓x_kAV, ↓x_orV, ↓x_kOV, ↓x_notV, ↓x_kNV, ↓x_tif, ↓x_nil, ↓x_kC2, ↓x_cons, ↓x_kC1d, ↓x_kC1o, ↓x_kC1k, ↓x_kC1t, ↓x_kC1n, ↓x_kC3d, ↓x_kC3o, ↓x_kC3k, ↓x_kC3t, ↓x_tup, ↓x_kTu, ↓x_lst, ↓x_kLs, ↓x_rnil, ↓x_kR2, ↓x_rcons, ↓x_kR1d, ↓x_kR1o, ↓x_kR1n, ↓x_callP, ↓x_kCP, ↓x_rvLc, ↓x_rvLn, ↓x_meth, ↓x_kM0d, ↓x_kM0o, ↓x_kM0n, ↓x_kM1, ↓x_kM2, ↓x_kM3, ↓x_meth0, ↓x_mut, ↓x_kU1n, ↓x_kU1d, ↓x_kU2, ↓x_kU3, ↓x_mg, ↓x_ms, ↓x_sl, ↓x_kS0d, ↓x_kS0o, ↓x_kS0n, ↓x_kS1, ↓x_kS2, ↓x_kS3, ↓x_on, ↓iC_i, ↓x_os, ↓x_kOs, ↓x_lc, ↓x_any, ↓x_pure, ↓sC_s, ↓x_rev, ↓x_call, ↓x_kCa, ↓x_gn, ↓x_gnil, ↓x_gcons, ↓x_isi, ↓a_ii, ↓a_ss, ↓a_ll, ↓a_tt, ↓a_I, ↓a_neg, ↓a_mul, ↓a_mulL, ↓a_mulS, ↓a_eq, ↓a_ne, ↓a_lt, ↓a_le, ↓a_gt, ↓a_ge, ↓a_ltS, ↓a_leS, ↓a_inS, ↓a_ninS, ↓a_inL, ↓a_ninL, ↓a_inT, ↓a_ninT, ↓a_ixL, ↓a_ixT, ↓a_ixS, ↓a_ixR, ↓a_ixB, ↓a_slL, ↓a_slT, ↓a_slS, ↓a_lenS, ↓a_lenL, ↓a_lenT, ↓a_lenR, ↓a_join, ↓a_ixof, ↓a_ixofL, ↓a_rng1, ↓a_rng2, ↓a_min2, ↓a_max2, ↓a_lstS, ↓a_lstL, ↓a_lstT, ↓a_int, ↓a_intB, ↓a_isN, ↓x_popAt, ↓x_all, ↓x_anyB, ↓a_isB, ↓a_pop, ↓x_dict0, ↓x_aK, ↓x_kg, ↓x_kgRn, ↓x_kgRf, ↓x_zips, ↓x_ks, ↓x_dg, ↓x_di, ↓x_dpt, ↓x_enum, ↓a_backL, ↓a_backS, ↓a_backT, ↓x_never, ↓a_tupL, ↓a_tupT, ↓x_sort, ↓x_sortS, ↓x_sortP, ↓a_slR, ↓x_zip, ↓x_sum, ↓a_count, ↓augC_i, ↓x_aug, ↓x_par, ↓x_raise, ↓x_callX, ↓x_try, ↓x_subA, ↓x_setN, ↓a_two, ↓x_swIx, ↓x_mkX, ↓x_mk0, ↓x_raise0, ↓a_exB, ↓a_tbl, ↓a_cbl, ↓x_isX, ↓x_xattr, ↓x_dictT0, ↓x_aT, ↓retC_dT, ↓retC_dK, ↓x_retT, ↓x_retK, ↓x_tgg, ↓x_tgRn, ↓x_tgRf, ↓x_tss, ↓x_dgT, ↓x_dptT, ↓x_callT, ↓a_lenTT, ↓a_listT, ↓a_dictT, ↓a_dictK, ↓x_chn, ↓a_mmT, ↓x_sortN, ↓a_lenSS, ↓a_ltT, ↓x_chn3, ↓a_dictN, ↓a_gN, ↓x_gls, ↓x_revT, ↓x_chS, ↓x_ltN, ↓x_try0, rvC_d, rvC_own, consO_s, isTy_s, isTy_l, mgC_own, walk_l, walk_t, walk_s, toR_d, toR_o, items_l, items_t, ok_s, ok_i, ok_b, ok_n, ok_l, ok_t, okL_n, okL_c, e_ss, e_ii, e_bb, e_ll, e_tt, eL_nn, eL_cc, eL_nc, eL_cn, ty_s, ty_i, ty_l, ty_b, kgC_dK, key_i, key_s, kI_eq, kS_eq, oneR_1, walkE_l, walkE_t, walkE_s, ty_t, twoR_2, side_l, side_t, twoD_2, ow_nil, ow_un, ow_d, toR_T, toR_K, tgC_dT, tupK_t, consK_s, keyL_n, keyL_c, fold1, intL_n, consI_s, intL_c, consS_s, strL_n, strL_c, tC_s, m_app, m_ext, m_rev, sline, startC, restE, restC, wipeE, wipeC, plainC, List.getElem?_cons_zero, List.getElem?_cons_succ, List.getD_cons_zero, List.getD_cons_succ, List.set_cons_zero, List.set_cons_succ, List.length_cons, List.length_nil, List.map_cons, List.map_nil, List.replicate_succ, List.replicate_zero, List.cons_append, List.nil_append, Nat.reduceAdd, Nat.reduceMul, Int.reduceAdd, Int.reduceSub, Int.reduceMul, Nat.reduceSub, Nat.reduceLT, Nat.reduceLeDiff, Nat.lt_add_one, Int.reduceNeg, Int.reduceLT, Int.reduceLE, Int.reduceToNat, Int.reducePow, Nat.reducePow, List.flatten_cons, List.flatten_nil, List.append_nil, true_and, and_true, true_or, or_true, eq_self, and_self, decide_true, decide_false, Bool.not_true, Bool.not_false, Bool.not_not, Option.isSome_some, Bool.and_true, Bool.true_and, Bool.and_self, reduceIte, ↓reduceIte, Bool.false_eq_true, ite_self, reduceCtorEq, ne_eq, not_false_eq_true, forall_const, ↓x_gtup, ↓a_repr, ↓x_min1, ↓a_min2S, ↓x_yes, ↓x_ite, x_gnil, walk_l, walk_t, walk_s, $xs,*])
theorem e_take {n s Q} : m_law_take [.box, .int n] s Q = (0 < n ∧ n < 2 ^ 64 ∧ ∀ d : Int, 0 ≤ d → d < n → Q (.d (.int d)) s) := rfl
theorem e_box {n k s Q} : m_law_box [.scr n, .int k] s Q = (0 ≤ k ∧ k < 2 ^ 40 ∧ Q (.d .box) s) := rfl
end Pu
set_option maxRecDepth 100000
set_option maxHeartbeats 1000000
namespace Pu
open PySem L2
local macro_rules | `(tactic| simpa?! only [$xs,*]) => `(tactic| simp -dsimp only [↓opt_some, ↓br_true, ↓br_false, ↓nameC_d, ↓nameC_own, ↓nameC_dK, ↓nameC_dT, ↓x_name, ↓fzC_d, ↓fzC_own, ↓fzC_dK, ↓fzC_dT, ↓x_fzn, ↓x_fzK, ↓x_fzT, ↓x_fzd, ↓x_fzo, ↓x_rvn, ↓x_rvd, ↓x_rvo, ↓retC_d, ↓retC_own, ↓x_retn, ↓x_retd, ↓x_reto, ↓x_hd, ↓x_ho, ↓x_hn, ↓x_ad, ↓x_ao, ↓x_an, ↓x_set, ↓x_seq, ↓x_next, ↓x_break, ↓x_cont, ↓x_drop, ↓x_ret, ↓x_retN, ↓x_if, ↓x_asg, ↓x_asgG, ↓x_while, ↓x_for, ↓x_2, ↓x_k2ad, ↓x_k2ao, ↓x_k2an, ↓x_k2b, ↓x_k2c, ↓x_1, ↓x_k1c, ↓x_D, ↓bC_b, ↓x_B, ↓x_kBc, ↓x_and, ↓x_kAn, ↓x_or, ↓x_kOr, ↓x_not, ↓x_kNo, ↓x_andV, ↓x_kAV, ↓x_orV, ↓x_kOV, ↓x_notV, ↓x_kNV, ↓x_tif, ↓x_nil, ↓x_kC2, ↓x_cons, ↓x_kC1d, ↓x_kC1o, ↓x_kC1k, ↓x_kC1t, ↓x_kC1n, ↓x_kC3d, ↓x_kC3o, ↓x_kC3k, ↓x_kC3t, ↓x_tup, ↓x_kTu, ↓x_lst, ↓x_kLs, ↓x_rnil, ↓x_kR2, ↓x_rcons, ↓x_kR1d, ↓x_kR1o, ↓x_kR1n, ↓x_callP, ↓x_kCP, ↓x_rvLc, ↓x_rvLn, ↓x_meth, ↓x_kM0d, ↓x_kM0o, ↓x_kM0n, ↓x_kM1, ↓x_kM2, ↓x_kM3, ↓x_meth0, ↓x_mut, ↓x_kU1n, ↓x_kU1d, ↓x_kU2, ↓x_kU3, ↓x_mg, ↓x_ms, ↓x_sl, ↓x_kS0d, ↓x_kS0o, ↓x_kS0n, ↓x_kS1, ↓x_kS2, ↓x_kS3, ↓x_on, ↓iC_i, ↓x_os, ↓x_kOs, ↓x_lc, ↓x_any, ↓x_pure, ↓sC_s, ↓x_rev, ↓x_call, ↓x_kCa, ↓x_gn, ↓x_gnil, ↓x_gcons, ↓x_isi, ↓a_ii, ↓a_ss, ↓a_ll, ↓a_tt, ↓a_I, ↓a_neg, ↓a_mul, ↓a_mulL, ↓a_mulS, ↓a_eq, ↓a_ne, ↓a_lt, ↓a_le, ↓a_gt, ↓a_ge, ↓a_ltS, ↓a_leS, ↓a_inS, ↓a_ninS, ↓a_inL, ↓a_ninL, ↓a_inT, ↓a_ninT, ↓a_ixL, ↓a_ixT, ↓a_ixS, ↓a_ixR, ↓a_ixB, ↓a_slL, ↓a_slT, ↓a_slS, ↓a_lenS, ↓a_lenL, ↓a_lenT, ↓a_lenR, ↓a_join, ↓a_ixof, ↓a_ixofL, ↓a_rng1, ↓a_rng2, ↓a_min2, ↓a_max2, ↓a_lstS, ↓a_lstL, ↓a_lstT, ↓a_int, ↓a_intB, ↓a_isN, ↓x_popAt, ↓x_all, ↓x_anyB, ↓a_isB, ↓a_pop, ↓x_dict0, ↓x_aK, ↓x_kg, ↓x_kgRn, ↓x_kgRf, ↓x_zips, ↓x_ks, ↓x_dg, ↓x_di, ↓x_dpt, ↓x_enum, ↓a_backL, ↓a_backS, ↓a_backT, ↓x_never, ↓a_tupL, ↓a_tupT, ↓x_sort, ↓x_sortS, ↓x_sortP, ↓a_slR, ↓x_zip, ↓x_sum, ↓a_count, ↓augC_i, ↓x_aug, ↓x_par, ↓x_raise, ↓x_callX, ↓x_try, ↓x_subA, ↓x_setN, ↓a_two, ↓x_swIx, ↓x_mkX, ↓x_mk0, ↓x_raise0, ↓a_exB, ↓a_tbl, ↓a_cbl, ↓x_isX, ↓x_xattr, ↓x_dictT0, ↓x_aT, ↓retC_dT, ↓retC_dK, ↓x_retT, ↓x_retK, ↓x_tgg, ↓x_tgRn, ↓x_tgRf, ↓x_tss, ↓x_dgT, ↓x_dptT, ↓x_callT, ↓a_lenTT, ↓a_listT, ↓a_dictT, ↓a_dictK, ↓x_chn, ↓a_mmT, ↓x_sortN, ↓a_lenSS, ↓a_ltT, ↓x_chn3, ↓a_dictN, ↓a_gN, ↓x_gls, ↓x_revT, ↓x_chS, ↓x_ltN, ↓x_try0, ↓x_fld, ↓x_kF, ↓x_kSF, ↓x_sfldZ, ↓x_sfldP, ↓x_kpd, ↓x_kpo, ↓x_kpK, ↓x_kpT, ↓x_kpC, ↓x_kpn, ↓x_2O, ↓x_k2adO, ↓x_k2aoO, ↓x_k2anO, ↓x_k2bO, ↓x_k2cO, ↓x_im, ↓x_kIM, ↓x_make, ↓x_kMk, ↓x_gtN, ↓x_methT, ↓x_kMTd, ↓x_mT1, ↓x_prK, ↓x_ixT, ↓x_prI, ↓x_splitA, ↓x_strI, ↓x_intS, ↓x_fs3, ↓x_f3I, ↓x_zipS, ↓x_parO, ↓x_asgZ, ↓x_asgK, ↓x_gd, ↓x_kGD, ↓x_case, ↓x_imX, ↓x_kIMX, ↓x_lcX, ↓x_ksr, ↓x_msr, ↓x_disp2, ↓x_kD2, ↓x_dgk2, ↓x_kG2, ↓x_clear, rvC_d, rvC_own, consO_s, isTy_s, isTy_l, mgC_own, walk_l, walk_t, walk_s, toR_d, toR_o, items_l, items_t, ok_s, ok_i, ok_b, ok_n, ok_l, ok_t, okL_n, okL_c, e_ss, e_ii, e_bb, e_ll, e_tt, eL_nn, eL_cc, eL_nc, eL_cn, ty_s, ty_i, ty_l, ty_b, kgC_dK, key_i, key_s, kI_eq, kS_eq, oneR_1, walkE_l, walkE_t, walkE_s, ty_t, twoR_2, side_l, side_t, twoD_2, ow_nil, ow_un, ow_d, toR_T, toR_K, tgC_dT, tupK_t, consK_s, keyL_n, keyL_c, fold1, intL_n, consI_s, intL_c, consS_s, strL_n, strL_c, tC_s, m_app, m_ext, m_rev, sline, startC, restE, restC, wipeE, wipeC, plainC, List.getElem?_cons_zero, List.getElem?_cons_succ, List.getD_cons_zero, List.getD_cons_succ, List.set_cons_zero, List.set_cons_succ, List.length_cons, List.length_nil, List.map_cons, List.map_nil, List.replicate_succ, List.replicate_zero, List.cons_append, List.nil_append, Nat.reduceAdd, Nat.reduceMul, Int.reduceAdd, Int.reduceSub, Int.reduceMul, Nat.reduceSub, Nat.reduceLT, Nat.reduceLeDiff, Nat.lt_add_one, Int.reduceNeg, Int.reduceLT, Int.reduceLE, Int.reduceToNat, Int.reducePow, Nat.reducePow, List.flatten_cons, List.flatten_nil, List.append_nil, true_and, and_true, true_or, or_true, eq_self, and_self, decide_true, decide_false, Bool.not_true, Bool.not_false, Bool.not_not, Option.isSome_some, Bool.and_true, Bool.true_and, Bool.and_self, reduceIte, ↓reduceIte, Bool.false_eq_true, ite_self, reduceCtorEq, ne_eq, not_false_eq_true, forall_const, ↓x_gtup, ↓a_repr, ↓x_min1, ↓a_min2S, ↓x_yes, ↓x_ite, x_gnil, walk_l, walk_t, walk_s, $xs,*])
theorem nd_len {α : Type} [DecidableEq α] : ∀ {l m : List α}, l.Nodup → (∀ a ∈ l, a ∈ m) → l.length ≤ m.length
  | [], _, _, _ => Nat.zero_le _
  | a :: l, m, h, s => by
    have h' := List.nodup_cons.mp h
    have am : a ∈ m := s a (by simp)
    have := nd_len (l := l) (m := m.erase a) h'.2 fun b hb => (List.mem_erase_of_ne (fun z => h'.1 (by rw [← z]; exact hb))).mpr (s b (List.mem_cons_of_mem _ hb))
    rw [List.length_erase_of_mem am] at this
    have := List.length_pos_of_mem am
    simp only [List.length_cons]
    omega
def kept4 : List (List Nat) := [[116, 104, 101, 110], [98, 97, 99, 107], [97, 103, 97, 105, 110], [102, 111, 114]]
def NameOk (n : List Nat) : Prop := n ≠ [] ∧ n.length ≤ 6 ∧ (∀ c ∈ n, c ∈ SM) ∧ n ∉ kept4
/-- the name whose first letter is so many on -/
def nmA (a : Nat) (tl : List Nat) : List Nat := (97 + a % 26) :: tl
theorem nm_free (tl : List Nat) (B : List (List Nat)) (h : B.length < 26) (a : Nat) : ∃ n, nmA (a + n) tl ∉ B := by
  refine Classical.byContradiction fun z => ?_
  have all : ∀ n, nmA (a + n) tl ∈ B := fun n => Classical.byContradiction fun y => z ⟨n, y⟩
  have nd : ((List.range 26).map fun n => nmA (a + n) tl).Nodup := by
    rw [List.nodup_iff_pairwise_ne, List.pairwise_map]
    refine List.Pairwise.imp_of_mem (fun {i j} hi hj hij => ?_) (List.pairwise_lt_range (n := 26))
    have hi := List.mem_range.mp hi
    have hj := List.mem_range.mp hj
    intro q
    unfold nmA at q
    injection q with q
    omega
  have := nd_len nd fun b hb => by obtain ⟨n, _, rfl⟩ := List.mem_map.mp hb; exact all n
  rw [List.length_map, List.length_range] at this
  omega
theorem SM_mem {c : Nat} : c ∈ SM ↔ 97 ≤ c ∧ c < 123 := by
  constructor
  · intro h
    have key : ∀ c ∈ SM, 97 ≤ c ∧ c < 123 := by decide +kernel
    exact key c h
  · rintro ⟨h1, h2⟩
    have key : ∀ n : Nat, n < 123 → 97 ≤ n → n ∈ SM := by decide +kernel
    exact key c h2 h1
theorem SM_ix {a : Nat} (h : a < 26) : ixOf (97 + a) SM = a ∧ SM[a]? = some (97 + a) := by
  have key : ∀ n : Nat, n < 26 → ixOf (97 + n) SM = n ∧ SM[n]? = some (97 + n) := by decide +kernel
  exact key a h
theorem SM_at {d : Int} (h0 : 0 ≤ d) (h1 : d < 26) : atI SM d = some (97 + d.toNat) := by
  obtain ⟨n, rfl⟩ := Int.eq_ofNat_of_zero_le h0
  exact atI_nat (SM_ix (a := n) (by omega)).2
/-- a text of so many drawn letters -/
def m_law_names : PM := fun ds st Q => match ds with
  | [.box, .int many] => 0 ≤ many ∧ many ≤ 9 ∧ ∀ ns : List (List Nat), (ns.length : Int) = many → ns.Nodup → (∀ n ∈ ns, NameOk n) → Q (.own (ns.map D.str)) st
  | _ => False
theorem e_names {many : Int} {s Q} : m_law_names [.box, .int many] s Q = (0 ≤ many ∧ many ≤ 9 ∧ ∀ ns : List (List Nat), (ns.length : Int) = many → ns.Nodup → (∀ n ∈ ns, NameOk n) → Q (.own (ns.map D.str)) s) := rfl
def t_law_names : PTS := sSeq (sAsg 2 (tD (.str SM))) (sSeq (sAsg 3 (tMeth "str" pJoin (tD (.str [])) (rCons (cLc (iPure pRng1 (rCons (t2 (tD (.int 1)) (tCall0 m_law_take (tCons (tName 0) (tCons (tD (.int 5)) (tNil)))) pAdd) (rNil))) (gName 8) (cYes) (t2 (tName 2) (tCall0 m_law_take (tCons (tName 0) (tCons (tD (.int 26)) (tNil)))) pIx) [8]) (rNil)))) (sSeq (sAsg 4 (tLst (tNil))) (sSeq (sWhile (tB (t2 (tCallP pLen (rCons (tName 4) (rNil))) (tName 1) pLt)) (sSeq (sAsg 5 (tCall0 m_law_take (tCons (tName 0) (tCons (tD (.int 3)) (tNil))))) (sSeq (sAsg 6 (tMeth "str" pJoin (tD (.str [])) (rCons (cLc (iPure pRng1 (rCons (t2 (tD (.int 1)) (tCall0 m_law_take (tCons (tName 0) (tCons (tD (.int 6)) (tNil)))) pAdd) (rNil))) (gName 8) (cYes) (t2 (tName 2) (tCall0 m_law_take (tCons (tName 0) (tCons (tD (.int 26)) (tNil)))) pIx) [8]) (rNil)))) (sSeq (sIf (tB (t2 (tName 5) (tD (.int 0)) pEq)) (sSeq (sAsg 7 (tCall0 m_law_take (tCons (tName 0) (tCons (tCallP pLen (rCons (tName 3) (rNil))) (tNil))))) (sAsg 6 (t2 (t2 (tSl (tName 3) (oNone) (oSome (tName 7))) (t2 (tName 2) (tCall0 m_law_take (tCons (tName 0) (tCons (tD (.int 26)) (tNil)))) pIx) pAdd) (tSl (tName 3) (oSome (t2 (tName 7) (tD (.int 1)) pAdd)) (oNone)) pAdd))) (sNext)) (sSeq (sIf (tB (t2 (tName 5) (tD (.int 1)) pEq)) (sAsg 6 (t2 (tSl (tName 3) (oNone) (oSome (t2 (tD (.int 1)) (tCall0 m_law_take (tCons (tName 0) (tCons (tCallP pLen (rCons (tName 3) (rNil))) (tNil)))) pAdd))) (tSl (tName 6) (oNone) (oSome (tCall0 m_law_take (tCons (tName 0) (tCons (tD (.int 2)) (tNil)))))) pAdd)) (sNext)) (sSeq (sWhile (tOr (tB (t2 (tName 6) (tName 4) (pIn false))) (tB (t2 (tName 6) (tTup (tCons (tD (.str [116, 104, 101, 110])) (tCons (tD (.str [98, 97, 99, 107])) (tCons (tD (.str [97, 103, 97, 105, 110])) (tCons (tD (.str [102, 111, 114])) (tNil)))))) (pIn false)))) (sAsg 6 (t2 (t2 (tName 2) (t2 (t2 (tMeth "str" pIndexS (tName 2) (rCons (t2 (tName 6) (tD (.int 0)) pIx) (rNil))) (tD (.int 1)) pAdd) (tD (.int 26)) pMod) pIx) (tSl (tName 6) (oSome (tD (.int 1))) (oNone)) pAdd))) (sDrop (tMut mAppend (tName 4) (tCons (tName 6) (tNil)))))))))) (sRet (tName 4)))))
abbrev N_law_names : List Str := ["_law_box_here", "_law_many", "_law_letters", "_law_stem", "_law_found", "_law_form", "_law_name", "_law_at", "_law_k"]
theorem len_law_names (ds : List D) (s : Sto) (Q : C → Sto → Prop) (h : m_law_names ds s Q) : ds.length = 2 := by
  unfold m_law_names at h
  split at h
  · rfl
  · exact h.elim
/-- what drawn letters are -/
theorem letters_of {ys : List D} {ds : List D} (h : All2 (fun _ y => ∃ c ∈ SM, y = .str [c]) ds ys) : ∃ w : List Nat, ys = signs w ∧ w.length = ds.length ∧ ∀ c ∈ w, c ∈ SM := by
  induction h with
  | nil => exact ⟨[], rfl, rfl, fun c hc => by cases hc⟩
  | cons r _ ih =>
    obtain ⟨c, hc, rfl⟩ := r
    obtain ⟨w, rfl, hl, hw⟩ := ih
    exact ⟨c :: w, rfl, by simp [hl], fun d hd => (List.mem_cons.mp hd).elim (fun z => z ▸ hc) (hw d)⟩
theorem any_strs {ns : List (List Nat)} {n : List Nat} : ((ns.map D.str).any fun z => D.eq z (.str n)) = decide (n ∈ ns) := by
  induction ns with
  | nil => rfl
  | cons a l ih =>
    rw [List.map_cons, List.any_cons, ih, e_ss, Bool.eq_iff_iff]
    simp only [Bool.or_eq_true, decide_eq_true_eq, List.mem_cons]
    exact ⟨fun h => h.imp Eq.symm id, fun h => h.imp Eq.symm id⟩
theorem okL_strs (l : List (List Nat)) (n : Nat) : D.okL (l.map D.str) n = true := by
  induction l with
  | nil => rfl
  | cons a l ih => rw [List.map_cons]; simp only [D.okL, ih, Bool.and_true]; rfl
theorem draw_ok {E0 : En} {Q : List D → En → Prop} {ds : List D} {e : En} (h : ∀ ys, All2 (fun _ y => ∃ c ∈ SM, y = .str [c]) ds ys → Q ys e) (he : e.sl[0]? = some (.d .box) ∧ e.sl[2]? = some (.d (.str SM)) ∧ 8 < e.sl.length) (hw : ∀ x : D, wipeE [8] (e.setC 8 (.d x)) = e) :
    lcH ds e (HB.mk (gName 8, cYes, t2 (tName 2) (tCall0 m_law_take (tCons (tName 0) (tCons (tD (D.int 26)) tNil))) pIx, [8], Q) ()) := by
  refine lcH_rel (fun _ y => ∃ c ∈ SM, y = .str [c]) (fun x hx K k => ?_) h
  obtain ⟨h0, h2, h8⟩ := he
  have g0 : (e.setC 8 (.d x)).sl[0]? = some (.d .box) := by unfold En.setC; simp only; rw [List.getElem?_set_ne (by omega)]; exact h0
  have g2 : (e.setC 8 (.d x)).sl[2]? = some (.d (.str SM)) := by unfold En.setC; simp only; rw [List.getElem?_set_ne (by omega)]; exact h2
  rw [x_gn]
  refine ⟨h8, ?_⟩
  rw [x_2, x_name, g2]
  simpa?! only [x_name, g0, e_take]
  intro z z0 z1
  refine opt_of (SM_at z0 z1) ?_
  simpa?! only []
  show K _ (wipeE [8] (e.setC 8 (.d x)))
  rw [hw]
  exact k _ ⟨_, SM_mem.mpr ⟨by omega, by omega⟩, rfl⟩
def nm_body : PTS := sAsg 6 (t2 (t2 (tName 2) (t2 (t2 (tMeth "str" pIndexS (tName 2) (rCons (t2 (tName 6) (tD (.int 0)) pIx) (rNil))) (tD (.int 1)) pAdd) (tD (.int 26)) pMod) pIx) (tSl (tName 6) (oSome (tD (.int 1))) (oNone)) pAdd)
theorem nm_body_ok {tl : List Nat} {a : Nat} {ns : List (List Nat)} {c0 c1 c3 c5 c7 : C} {s : Sto} {P : PEn} (h6 : tl.length ≤ 5) (N : P.nx ⟨[c0, c1, .d (.str SM), c3, .own (ns.map D.str), c5, .d (.str (nmA (a + 1) tl)), c7, .un], s⟩) :
    nm_body noX P ⟨[c0, c1, .d (.str SM), c3, .own (ns.map D.str), c5, .d (.str (nmA a tl)), c7, .un], s⟩ := by
  have ha : a % 26 < 26 := Nat.mod_lt _ (by omega)
  unfold nm_body
  simpa?! only []
  refine opt_of (a := 97 + a % 26) (show atI (nmA a tl) ((0 : Nat) : Int) = _ from atI_nat rfl) ?_
  simpa?! only []
  rw [(SM_ix ha).1]
  have e : (((a % 26 : Nat) : Int) + 1) % 26 = (((a + 1) % 26 : Nat) : Int) := by omega
  rw [e]
  refine ⟨SM_mem.mpr ⟨by omega, by omega⟩, opt_of (atI_nat (SM_ix (a := (a + 1) % 26) (Nat.mod_lt _ (by omega))).2) ?_⟩
  have c1 : cut (nmA a tl) (some 1) none = tl := cut_drop (nmA a tl) 1
  simpa?! only [c1]
  exact ⟨by omega, N⟩
/-- the name and what is forbidden: the next first letter until it is free; then it is one of the names -/
def nm_rest : PTS := sSeq (sWhile (tOr (tB (t2 (tName 6) (tName 4) (pIn false))) (tB (t2 (tName 6) (tTup (tCons (tD (.str [116, 104, 101, 110])) (tCons (tD (.str [98, 97, 99, 107])) (tCons (tD (.str [97, 103, 97, 105, 110])) (tCons (tD (.str [102, 111, 114])) (tNil)))))) (pIn false)))) (sAsg 6 (t2 (t2 (tName 2) (t2 (t2 (tMeth "str" pIndexS (tName 2) (rCons (t2 (tName 6) (tD (.int 0)) pIx) (rNil))) (tD (.int 1)) pAdd) (tD (.int 26)) pMod) pIx) (tSl (tName 6) (oSome (tD (.int 1))) (oNone)) pAdd))) (sDrop (tMut mAppend (tName 4) (tCons (tName 6) (tNil))))
theorem nm_rest_ok {many : Int} {stem nm : List Nat} {ns : List (List Nat)} {c5 c7 : C} {s : Sto} {P : PEn} (h0 : nm ≠ []) (h6 : nm.length ≤ 6) (hs : ∀ c ∈ nm, c ∈ SM) (hl : ns.length ≤ 9)
    (N : ∀ n', NameOk n' → n' ∉ ns → P.nx ⟨[.d .box, .d (.int many), .d (.str SM), .d (.str stem), .own ((ns ++ [n']).map D.str), c5, .d (.str n'), c7, .un], s⟩) :
    nm_rest noX P ⟨[.d .box, .d (.int many), .d (.str SM), .d (.str stem), .own (ns.map D.str), c5, .d (.str nm), c7, .un], s⟩ := by
  obtain ⟨a0, tl, rfl, ha0⟩ : ∃ a tl, nm = nmA a tl ∧ a < 26 := by
    cases nm with
    | nil => exact absurd rfl h0
    | cons c tl =>
      have := SM_mem.mp (hs c (by simp))
      exact ⟨c - 97, tl, by unfold nmA; congr 1; omega, by omega⟩
  have htl : ∀ c ∈ tl, c ∈ SM := fun c hc => hs c (by unfold nmA; simp [hc])
  have hB : (ns ++ kept4).length < 26 := by rw [List.length_append]; show ns.length + 4 < 26; omega
  obtain ⟨n0, hn0⟩ := nm_free tl _ hB a0
  unfold nm_rest
  simpa?! only []
  refine wh_on (fun p : Nat × Nat => ⟨[.d .box, .d (.int many), .d (.str SM), .d (.str stem), .own (ns.map D.str), c5, .d (.str (nmA p.1 tl)), c7, .un], s⟩) (fun p => nmA (p.1 + p.2) tl ∉ ns ++ kept4) (fun p => p.2) (a0, n0) rfl hn0 ?_
  rintro ⟨a, n⟩ hw K k
  have e1 : (ns.map D.str).any (fun z => D.eq z (.str (nmA a tl))) = decide (nmA a tl ∈ ns) := any_strs
  have e2 : (kept4.map D.str).any (fun z => D.eq z (.str (nmA a tl))) = decide (nmA a tl ∈ kept4) := any_strs
  have tl5 : tl.length ≤ 5 := by unfold nmA at h6; simpa using h6
  have go : nmA a tl ∈ ns ++ kept4 → ∀ (P' : PEn), P'.nx = K → nm_body noX P' ⟨[.d .box, .d (.int many), .d (.str SM), .d (.str stem), .own (ns.map D.str), c5, .d (.str (nmA a tl)), c7, .un], s⟩ := fun hm P' hP => by
    have hn : n ≠ 0 := fun z => hw (by rw [z]; exact hm)
    refine nm_body_ok tl5 ?_
    rw [hP]
    exact k (a + 1, n - 1) (by show nmA (a + 1 + (n - 1)) tl ∉ _; rw [show a + 1 + (n - 1) = a + n by omega]; exact hw) (by show n - 1 < n; omega)
  simpa?! only []
  refine ⟨okL_strs _ _, ?_⟩
  rw [e1]
  refine br_intro (fun b1 => ?_) (fun b1 => ?_)
  · refine br_pos rfl ?_
    exact go (List.mem_append_left _ (of_decide_eq_true b1)) _ rfl
  · simpa?! only []
    refine ⟨rfl, rfl, ?_⟩
    have e3 : ([D.str [116, 104, 101, 110], D.str [98, 97, 99, 107], D.str [97, 103, 97, 105, 110], D.str [102, 111, 114]].any fun z => z.eq (D.str (nmA a tl))) = decide (nmA a tl ∈ kept4) := e2
    rw [e3]
    refine br_intro (fun b2 => ?_) (fun b2 => ?_)
    · exact go (List.mem_append_right _ (of_decide_eq_true b2)) _ rfl
    · have n1 : nmA a tl ∉ ns := of_decide_eq_false b1
      have n2 : nmA a tl ∉ kept4 := of_decide_eq_false b2
      have z := N (nmA a tl) ⟨by unfold nmA; simp, by unfold nmA; simp; omega, fun c hc => ?_, n2⟩ n1
      · simpa?! only []
        refine ⟨by rw [List.length_map]; omega, ?_⟩
        rw [List.map_append] at z
        exact z
      · unfold nmA at hc
        rcases List.mem_cons.mp hc with rfl | hc
        · exact SM_mem.mpr ⟨by omega, by omega⟩
        · exact htl c hc
def nm_if1 : PTS := sSeq (sIf (tB (t2 (tName 5) (tD (.int 1)) pEq)) (sAsg 6 (t2 (tSl (tName 3) (oNone) (oSome (t2 (tD (.int 1)) (tCall0 m_law_take (tCons (tName 0) (tCons (tCallP pLen (rCons (tName 3) (rNil))) (tNil)))) pAdd))) (tSl (tName 6) (oNone) (oSome (tCall0 m_law_take (tCons (tName 0) (tCons (tD (.int 2)) (tNil)))))) pAdd)) (sNext)) (sSeq (sWhile (tOr (tB (t2 (tName 6) (tName 4) (pIn false))) (tB (t2 (tName 6) (tTup (tCons (tD (.str [116, 104, 101, 110])) (tCons (tD (.str [98, 97, 99, 107])) (tCons (tD (.str [97, 103, 97, 105, 110])) (tCons (tD (.str [102, 111, 114])) (tNil)))))) (pIn false)))) (sAsg 6 (t2 (t2 (tName 2) (t2 (t2 (tMeth "str" pIndexS (tName 2) (rCons (t2 (tName 6) (tD (.int 0)) pIx) (rNil))) (tD (.int 1)) pAdd) (tD (.int 26)) pMod) pIx) (tSl (tName 6) (oSome (tD (.int 1))) (oNone)) pAdd))) (sDrop (tMut mAppend (tName 4) (tCons (tName 6) (tNil)))))
theorem nm_if1_ok {many d : Int} {stem nm : List Nat} {ns : List (List Nat)} {c7 : C} {s : Sto} {P : PEn} (h0 : nm ≠ []) (h6 : nm.length ≤ 6) (hs : ∀ c ∈ nm, c ∈ SM) (hl : ns.length ≤ 9) (g0 : stem ≠ []) (g6 : stem.length ≤ 5) (gs : ∀ c ∈ stem, c ∈ SM)
    (N : ∀ n', NameOk n' → n' ∉ ns → ∀ c5 c7, P.nx ⟨[.d .box, .d (.int many), .d (.str SM), .d (.str stem), .own ((ns ++ [n']).map D.str), c5, .d (.str n'), c7, .un], s⟩) :
    nm_if1 noX P ⟨[.d .box, .d (.int many), .d (.str SM), .d (.str stem), .own (ns.map D.str), .d (.int d), .d (.str nm), c7, .un], s⟩ := by
  have R : ∀ nm, nm ≠ [] → nm.length ≤ 6 → (∀ c ∈ nm, c ∈ SM) → nm_rest noX P ⟨[.d .box, .d (.int many), .d (.str SM), .d (.str stem), .own (ns.map D.str), .d (.int d), .d (.str nm), c7, .un], s⟩ :=
    fun nm h0 h6 hs => nm_rest_ok h0 h6 hs hl fun n' o h => N n' o h _ _
  have sl : 0 < stem.length := List.length_pos_iff.mpr g0
  unfold nm_if1
  show sSeq _ nm_rest _ _ _
  generalize hR : nm_rest = RR
  simpa?! only [e_take]
  subst hR
  refine br_intro (fun b => ?_) (fun b => ?_)
  · simpa?! only [e_take]
    refine ⟨by omega, by omega, fun d1 a0 a1 d2 b0 b1 => ?_⟩
    obtain ⟨n1, rfl⟩ := Int.eq_ofNat_of_zero_le a0
    obtain ⟨n2, rfl⟩ := Int.eq_ofNat_of_zero_le b0
    have e1 : cut stem none (some (1 + (n1 : Int))) = stem.take (n1 + 1) := by rw [show (1 + (n1 : Int)) = ((n1 + 1 : Nat) : Int) by omega]; exact cut_take stem (n1 + 1)
    rw [e1, cut_take nm n2]
    have z1 : (stem.take (n1 + 1)).length = n1 + 1 := by rw [List.length_take]; omega
    have z2 : (nm.take n2).length ≤ n2 := by rw [List.length_take]; omega
    refine ⟨by omega, R _ (fun z => ?_) (by rw [List.length_append]; omega) fun c hc => ?_⟩
    · have := congrArg List.length z
      rw [List.length_append, z1] at this
      simp at this
    · rcases List.mem_append.mp hc with h | h
      · exact gs c (List.mem_of_mem_take h)
      · exact hs c (List.mem_of_mem_take h)
  · simpa?! only []
    exact R nm h0 h6 hs
theorem p_law_names (ds : List D) (s : Sto) (Q : C → Sto → Prop) (h : m_law_names ds s Q) : t_law_names noX { nx := fun e => Q (.d .non) e.st, rt := fun c e => Q c e.st } ⟨startC N_law_names ds, s⟩ := by
  unfold m_law_names at h
  split at h
  · rename_i many
    obtain ⟨m0, m9, q⟩ := h
    unfold t_law_names
    simpa?! only [e_take]
    intro d0 d01 d02
    refine ⟨⟨by omega, by omega⟩, by rw [rngI_length]; omega, ?_⟩
    refine draw_ok (E0 := ⟨[], []⟩) (fun ys hys => ?_) ⟨rfl, rfl, by simp⟩ fun _ => rfl
    obtain ⟨stem, rfl, hsl, hs⟩ := letters_of hys
    rw [rngI_length] at hsl
    simpa?! only [strL_signs, joinN_signs]
    refine ⟨len_signs' (by omega), ?_⟩
    have st0 : stem ≠ [] := fun z => by rw [z] at hsl; simp at hsl; omega
    have sl5 : stem.length ≤ 5 := by omega
    have sl1 : 0 < stem.length := List.length_pos_iff.mpr st0
    refine wh_on (fun p : List (List Nat) × C × C × C => ⟨[.d .box, .d (.int many), .d (.str SM), .d (.str stem), .own (p.1.map D.str), p.2.1, p.2.2.1, p.2.2.2, .un], s⟩) (fun p => p.1.Nodup ∧ (∀ n ∈ p.1, NameOk n) ∧ (p.1.length : Int) ≤ many) (fun p => many.toNat - p.1.length) ([], .un, .un, .un) rfl ⟨List.nodup_nil, fun n h => (by cases h), by simpa using m0⟩ ?_
    rintro ⟨ns, c5, c6, c7⟩ ⟨w1, w2, w3⟩ K k
    simp only at w1 w2 w3
    simpa?! only []
    rw [List.length_map]
    refine br_intro (fun b => ?_) (fun b => ?_)
    · have b : (ns.length : Int) < many := of_decide_eq_true b
      have N : ∀ n', NameOk n' → n' ∉ ns → ∀ c5 c7, K ⟨[.d .box, .d (.int many), .d (.str SM), .d (.str stem), .own ((ns ++ [n']).map D.str), c5, .d (.str n'), c7, .un], s⟩ := fun n' o h c5 c7 =>
        k (ns ++ [n'], c5, .d (.str n'), c7) ⟨by rw [List.nodup_append]; exact ⟨w1, by simp, fun a ha b hb => (by rw [List.mem_singleton] at hb; subst hb; exact fun z => h (z ▸ ha))⟩, fun n hn => (List.mem_append.mp hn).elim (w2 n) fun z => (by rw [List.mem_singleton] at z; exact z ▸ o), by simp; omega⟩ (by simp; omega)
      have R : ∀ (d : Int) nm, nm ≠ [] → nm.length ≤ 6 → (∀ c ∈ nm, c ∈ SM) → ∀ c7 (P' : PEn), P'.nx = K → nm_if1 noX P' ⟨[.d .box, .d (.int many), .d (.str SM), .d (.str stem), .own (ns.map D.str), .d (.int d), .d (.str nm), c7, .un], s⟩ :=
        fun d nm h0 h6 h c7 P' hP => nm_if1_ok h0 h6 h (by omega) st0 sl5 hs (by rw [hP]; exact N)
      simpa?! only [e_take]
      intro d a0 a1 d1 b0 b1
      refine ⟨⟨by omega, by omega⟩, by rw [rngI_length]; omega, ?_⟩
      refine draw_ok (E0 := ⟨[], []⟩) (fun ys hys => ?_) ⟨rfl, rfl, by simp⟩ fun _ => rfl
      obtain ⟨nm, rfl, hnl, hn⟩ := letters_of hys
      rw [rngI_length] at hnl
      have nm0 : nm ≠ [] := fun z => by rw [z] at hnl; simp at hnl; omega
      generalize hQ : nm_if1 = RR at R
      have hQ' : RR = _ := hQ.symm
      unfold nm_if1 at hQ'
      rw [← hQ']
      simpa?! only [strL_signs, joinN_signs]
      refine ⟨len_signs' (by omega), ?_⟩
      have cl : ∀ (f : Int) (l : List Nat), cut l none (some f) = cut l none (some f) := fun _ _ => rfl
      refine br_intro (fun b1 => ?_) (fun b1 => ?_)
      · simpa?! only [e_take]
        refine ⟨by omega, by omega, fun a a2 a3 z z2 z3 => ?_⟩
        refine opt_of (SM_at z2 z3) ?_
        obtain ⟨n1, rfl⟩ := Int.eq_ofNat_of_zero_le a2
        have e1 : cut stem (some ((n1 : Int) + 1)) none = stem.drop (n1 + 1) := cut_drop stem (n1 + 1)
        simpa?! only [cut_take, e1]
        have z4 : (stem.take n1).length = n1 := by rw [List.length_take]; omega
        have z5 : (stem.drop (n1 + 1)).length = stem.length - (n1 + 1) := List.length_drop ..
        refine ⟨by (try simp only [List.length_cons, List.length_nil]); omega, by (try simp only [List.length_append, List.length_cons, List.length_nil]); omega, ?_⟩
        refine R d _ (fun z => by have := congrArg List.length z; simp at this) (by simp only [List.length_append, List.length_cons, List.length_nil]; omega) (fun c hc => ?_) _ _ rfl
        rcases List.mem_append.mp hc with h | h
        · rcases List.mem_append.mp h with h | h
          · exact hs c (List.mem_of_mem_take h)
          · rw [List.mem_singleton] at h; subst h; exact SM_mem.mpr ⟨by omega, by omega⟩
        · exact hs c (List.mem_of_mem_drop h)
      · exact R d nm nm0 (by omega) hn _ _ rfl
    · have b : ¬ (ns.length : Int) < many := of_decide_eq_false b
      simpa?! only []
      exact q ns (by omega) w1 w2
  · exact h.elim
set_option maxRecDepth 100000
set_option maxHeartbeats 1000000
inductive Tm where
  | walk (w : List Nat) | name (n : List Nat) | thn (s t : Tm) | back (t : Tm) | again (k : Nat) (t : Tm) | fr (x : Nat) (s t : Tm)
abbrev kWalk : List Nat := [119, 97, 108, 107]
abbrev kName : List Nat := [110, 97, 109, 101]
abbrev kThen : List Nat := [116, 104, 101, 110]
abbrev kBack : List Nat := [98, 97, 99, 107]
abbrev kAgain : List Nat := [97, 103, 97, 105, 110]
abbrev kFor : List Nat := [102, 111, 114]
def tmD : Tm → D
  | .walk w => .tup [.str kWalk, .str w]
  | .name n => .tup [.str kName, .str n]
  | .thn s t => .tup [.str kThen, tmD s, tmD t]
  | .back t => .tup [.str kBack, tmD t]
  | .again k t => .tup [.str kAgain, .int k, tmD t]
  | .fr x s t => .tup [.str kFor, .str [x], tmD s, tmD t]
def Tm.dp : Tm → Nat
  | .walk _ => 0
  | .name _ => 0
  | .thn s t => max s.dp t.dp + 1
  | .back t => t.dp + 1
  | .again _ t => t.dp + 1
  | .fr _ s t => max s.dp t.dp + 1
def Tm.subs : Tm → List Tm
  | .walk _ => []
  | .name _ => []
  | .thn s t => [s, t]
  | .back t => [t]
  | .again _ t => [t]
  | .fr _ s t => [s, t]
def putF (x : Nat) (o : List Nat) (w : List Nat) : List Nat := (w.map fun c => if c = x then o else if c = con x then turn o else [c]).flatten
/-- well formed over some names -/
def Wf (ns : List (List Nat)) : Tm → Prop
  | .walk w => IsW w ∧ w.length ≤ 60
  | .name n => n ∈ ns
  | .thn s t => Wf ns s ∧ Wf ns t
  | .back t => Wf ns t
  | .again k t => k ≤ 6 ∧ Wf ns t
  | .fr x s t => x ∈ SM ∧ Wf ns s ∧ Wf ns t
theorem Wf.sub {ns : List (List Nat)} {t u : Tm} (h : Wf ns t) (hu : u ∈ t.subs) : Wf ns u ∧ u.dp < t.dp := by
  cases t with
  | walk _ => cases hu
  | name _ => cases hu
  | thn s t =>
    have hu : u = s ∨ u = t := by simpa [Tm.subs] using hu
    rcases hu with rfl | rfl
    · exact ⟨h.1, by simp only [Tm.dp]; omega⟩
    · exact ⟨h.2, by simp only [Tm.dp]; omega⟩
  | back t =>
    have hu : u = t := by simpa [Tm.subs] using hu
    subst hu
    exact ⟨h, by simp only [Tm.dp]; omega⟩
  | again k t =>
    have hu : u = t := by simpa [Tm.subs] using hu
    subst hu
    exact ⟨h.2, by simp only [Tm.dp]; omega⟩
  | fr x s t =>
    have hu : u = s ∨ u = t := by simpa [Tm.subs] using hu
    rcases hu with rfl | rfl
    · exact ⟨h.2.1, by simp only [Tm.dp]; omega⟩
    · exact ⟨h.2.2, by simp only [Tm.dp]; omega⟩
theorem Wf.mono {ns ms : List (List Nat)} (hs : ∀ n ∈ ns, n ∈ ms) {t : Tm} : Wf ns t → Wf ms t := by
  induction t with
  | walk _ => exact id
  | name n => exact hs n
  | thn s t i1 i2 => exact fun h => ⟨i1 h.1, i2 h.2⟩
  | back t i => exact i
  | again k t i => exact fun h => ⟨h.1, i h.2⟩
  | fr x s t i1 i2 => exact fun h => ⟨h.1, i1 h.2.1, i2 h.2.2⟩
theorem SM_L {c : Nat} (h : c ∈ SM) : IsL c := by have := SM_mem.mp h; unfold IsL; omega
theorem rep_W {w : List Nat} (hw : IsW w) (k : Nat) : IsW (List.replicate k w).flatten := by
  intro c hc
  obtain ⟨l, hl, hc⟩ := List.mem_flatten.mp hc
  exact hw c ((List.mem_replicate.mp hl).2 ▸ hc)
end Pu
set_option maxRecDepth 100000
set_option maxHeartbeats 1000000
namespace Pu
open PySem L2
local macro_rules | `(tactic| simpa?! only [$xs,*]) => `(tactic| simp -dsimp only [↓opt_some, ↓br_true, ↓br_false, ↓nameC_d, ↓nameC_own, ↓nameC_dK, ↓nameC_dT, ↓x_name, ↓fzC_d, ↓fzC_own, ↓fzC_dK, ↓fzC_dT, ↓x_fzn, ↓x_fzK, ↓x_fzT, ↓x_fzd, ↓x_fzo, ↓x_rvn, ↓x_rvd, ↓x_rvo, ↓retC_d, ↓retC_own, ↓x_retn, ↓x_retd, ↓x_reto, ↓x_hd, ↓x_ho, ↓x_hn, ↓x_ad, ↓x_ao, ↓x_an, ↓x_set, ↓x_seq, ↓x_next, ↓x_break, ↓x_cont, ↓x_drop, ↓x_ret, ↓x_retN, ↓x_if, ↓x_asg, ↓x_asgG, ↓x_while, ↓x_for, ↓x_2, ↓x_k2ad, ↓x_k2ao, ↓x_k2an, ↓x_k2b, ↓x_k2c, ↓x_1, ↓x_k1c, ↓x_D, ↓bC_b, ↓x_B, ↓x_kBc, ↓x_and, ↓x_kAn, ↓x_or, ↓x_kOr, ↓x_not, ↓x_kNo, ↓x_andV, ↓x_kAV, ↓x_orV, ↓x_kOV, ↓x_notV, ↓x_kNV, ↓x_tif, ↓x_nil, ↓x_kC2, ↓x_cons, ↓x_kC1d, ↓x_kC1o, ↓x_kC1k, ↓x_kC1t, ↓x_kC1n, ↓x_kC3d, ↓x_kC3o, ↓x_kC3k, ↓x_kC3t, ↓x_tup, ↓x_kTu, ↓x_lst, ↓x_kLs, ↓x_rnil, ↓x_kR2, ↓x_rcons, ↓x_kR1d, ↓x_kR1o, ↓x_kR1n, ↓x_callP, ↓x_kCP, ↓x_rvLc, ↓x_rvLn, ↓x_meth, ↓x_kM0d, ↓x_kM0o, ↓x_kM0n, ↓x_kM1, ↓x_kM2, ↓x_kM3, ↓x_meth0, ↓x_mut, ↓x_kU1n, ↓x_kU1d, ↓x_kU2, ↓x_kU3, ↓x_mg, ↓x_ms, ↓x_sl, ↓x_kS0d, ↓x_kS0o, ↓x_kS0n, ↓x_kS1, ↓x_kS2, ↓x_kS3, ↓x_on, ↓iC_i, ↓x_os, ↓x_kOs, ↓x_lc, ↓x_any, ↓x_pure, ↓sC_s, ↓x_rev, ↓x_call, ↓x_kCa, ↓x_gn, ↓x_gnil, ↓x_gcons, ↓x_isi, ↓a_ii, ↓a_ss, ↓a_ll, ↓a_tt, ↓a_I, ↓a_neg, ↓a_mul, ↓a_mulL, ↓a_mulS, ↓a_eq, ↓a_ne, ↓a_lt, ↓a_le, ↓a_gt, ↓a_ge, ↓a_ltS, ↓a_leS, ↓a_inS, ↓a_ninS, ↓a_inL, ↓a_ninL, ↓a_inT, ↓a_ninT, ↓a_ixL, ↓a_ixT, ↓a_ixS, ↓a_ixR, ↓a_ixB, ↓a_slL, ↓a_slT, ↓a_slS, ↓a_lenS, ↓a_lenL, ↓a_lenT, ↓a_lenR, ↓a_join, ↓a_ixof, ↓a_ixofL, ↓a_rng1, ↓a_rng2, ↓a_min2, ↓a_max2, ↓a_lstS, ↓a_lstL, ↓a_lstT, ↓a_int, ↓a_intB, ↓a_isN, ↓x_popAt, ↓x_all, ↓x_anyB, ↓a_isB, ↓a_pop, ↓x_dict0, ↓x_aK, ↓x_kg, ↓x_kgRn, ↓x_kgRf, ↓x_zips, ↓x_ks, ↓x_dg, ↓x_di, ↓x_dpt, ↓x_enum, ↓a_backL, ↓a_backS, ↓a_backT, ↓x_never, ↓a_tupL, ↓a_tupT, ↓x_sort, ↓x_sortS, ↓x_sortP, ↓a_slR, ↓x_zip, ↓x_sum, ↓a_count, ↓augC_i, ↓x_aug, ↓x_par, ↓x_raise, ↓x_callX, ↓x_try, ↓x_subA, ↓x_setN, ↓a_two, ↓x_swIx, ↓x_mkX, ↓x_mk0, ↓x_raise0, ↓a_exB, ↓a_tbl, ↓a_cbl, ↓x_isX, ↓x_xattr, ↓x_dictT0, ↓x_aT, ↓retC_dT, ↓retC_dK, ↓x_retT, ↓x_retK, ↓x_tgg, ↓x_tgRn, ↓x_tgRf, ↓x_tss, ↓x_dgT, ↓x_dptT, ↓x_callT, ↓a_lenTT, ↓a_listT, ↓a_dictT, ↓a_dictK, ↓x_chn, ↓a_mmT, ↓x_sortN, ↓a_lenSS, ↓a_ltT, ↓x_chn3, ↓a_dictN, ↓a_gN, ↓x_gls, ↓x_revT, ↓x_chS, ↓x_ltN, ↓x_try0, ↓x_fld, ↓x_kF, ↓x_kSF, ↓x_sfldZ, ↓x_sfldP, ↓x_kpd, ↓x_kpo, ↓x_kpK, ↓x_kpT, ↓x_kpC, ↓x_kpn, ↓x_2O, ↓x_k2adO, ↓x_k2aoO, ↓x_k2anO, ↓x_k2bO, ↓x_k2cO, ↓x_im, ↓x_kIM, ↓x_make, ↓x_kMk, ↓x_gtN, ↓x_methT, ↓x_kMTd, ↓x_mT1, ↓x_prK, ↓x_ixT, ↓x_prI, ↓x_splitA, ↓x_strI, ↓x_intS, ↓x_fs3, ↓x_f3I, ↓x_zipS, ↓x_parO, ↓x_asgZ, ↓x_asgK, ↓x_gd, ↓x_kGD, ↓x_case, ↓x_imX, ↓x_kIMX, ↓x_lcX, ↓x_ksr, ↓x_msr, ↓x_disp2, ↓x_kD2, ↓x_dgk2, ↓x_kG2, ↓x_clear, ↓x_kin, ↓x_kKI, ↓x_khas, ↓x_kKH, ↓x_igt, ↓x_izg, ↓x_kIG, ↓x_split1, ↓x_strAi, ↓x_strAs, rvC_d, rvC_own, consO_s, isTy_s, isTy_l, mgC_own, walk_l, walk_t, walk_s, toR_d, toR_o, items_l, items_t, ok_s, ok_i, ok_b, ok_n, ok_l, ok_t, okL_n, okL_c, e_ss, e_ii, e_bb, e_ll, e_tt, eL_nn, eL_cc, eL_nc, eL_cn, ty_s, ty_i, ty_l, ty_b, kgC_dK, key_i, key_s, kI_eq, kS_eq, oneR_1, walkE_l, walkE_t, walkE_s, ty_t, twoR_2, side_l, side_t, twoD_2, ow_nil, ow_un, ow_d, toR_T, toR_K, tgC_dT, tupK_t, consK_s, keyL_n, keyL_c, fold1, intL_n, consI_s, intL_c, consS_s, strL_n, strL_c, tC_s, m_app, m_ext, m_rev, sline, startC, restE, restC, wipeE, wipeC, plainC, List.getElem?_cons_zero, List.getElem?_cons_succ, List.getD_cons_zero, List.getD_cons_succ, List.set_cons_zero, List.set_cons_succ, List.length_cons, List.length_nil, List.map_cons, List.map_nil, List.replicate_succ, List.replicate_zero, List.cons_append, List.nil_append, Nat.reduceAdd, Nat.reduceMul, Int.reduceAdd, Int.reduceSub, Int.reduceMul, Nat.reduceSub, Nat.reduceLT, Nat.reduceLeDiff, Nat.lt_add_one, Int.reduceNeg, Int.reduceLT, Int.reduceLE, Int.reduceToNat, Int.reducePow, Nat.reducePow, List.flatten_cons, List.flatten_nil, List.append_nil, true_and, and_true, true_or, or_true, eq_self, and_self, decide_true, decide_false, Bool.not_true, Bool.not_false, Bool.not_not, Option.isSome_some, Bool.and_true, Bool.true_and, Bool.and_self, reduceIte, ↓reduceIte, Bool.false_eq_true, ite_self, reduceCtorEq, ne_eq, not_false_eq_true, forall_const, ↓x_gtup, ↓a_repr, ↓x_min1, ↓a_min2S, ↓x_yes, ↓x_ite, x_gnil, walk_l, walk_t, walk_s, $xs,*])
def Tm.kwx : Tm → List Nat
  | .walk _ => kWalk
  | .name _ => kName
  | .thn _ _ => kThen
  | .back _ => kBack
  | .again _ _ => kAgain
  | .fr _ _ _ => kFor
def Tm.prx : Tm → List (D ⊕ Tm)
  | .walk w => [.inl (.str w)]
  | .name n => [.inl (.str n)]
  | .thn s t => [.inr s, .inr t]
  | .back t => [.inr t]
  | .again k t => [.inl (.int k), .inr t]
  | .fr x s t => [.inl (.str [x]), .inr s, .inr t]
def prx : D ⊕ Tm → D
  | .inl d => d
  | .inr t => tmD t
def txt : Tm → List Nat
  | .walk w => [39] ++ w ++ [39]
  | .name n => n
  | .thn s t => [40] ++ kThen ++ [32] ++ txt s ++ [32] ++ txt t ++ [41]
  | .back t => [40] ++ kBack ++ [32] ++ txt t ++ [41]
  | .again k t => [40] ++ kAgain ++ [32] ++ TL.numL k ++ [32] ++ txt t ++ [41]
  | .fr x s t => [40] ++ kFor ++ [32] ++ [x] ++ [32] ++ txt s ++ [32] ++ txt t ++ [41]
def ptx : D ⊕ Tm → List Nat
  | .inl (.int i) => TL.numL i.toNat
  | .inl (.str s) => s
  | .inl _ => []
  | .inr t => txt t
def srtx : D ⊕ Tm → List Nat
  | .inl (.int _) => [116, 105, 109, 101, 115]
  | .inl _ => [108, 101, 116, 116, 101, 114]
  | .inr _ => [116, 101, 114, 109]
def Tm.leaf : Tm → Bool
  | .walk _ => true
  | .name _ => true
  | _ => false
theorem txt_prx (t : Tm) (h : t.leaf = false) : txt t = [40] ++ t.kwx ++ (t.prx.map fun p => 32 :: ptx p).flatten ++ [41] := by
  cases t with
  | walk w => cases h
  | name n => cases h
  | thn s t => simp [txt, Tm.kwx, Tm.prx, ptx]
  | back t => simp [txt, Tm.kwx, Tm.prx, ptx]
  | again k t => simp [txt, Tm.kwx, Tm.prx, ptx]
  | fr x s t => simp [txt, Tm.kwx, Tm.prx, ptx]
/-- well written: the words' letters, the names, the numbers -/
def TOk : Tm → Prop
  | .walk w => IsW w ∧ w.length ≤ 1000
  | .name n => NameOk n
  | .thn s t => TOk s ∧ TOk t
  | .back t => TOk t
  | .again k t => k ≤ 6 ∧ TOk t
  | .fr x s t => x ∈ SM ∧ TOk s ∧ TOk t
theorem Wf.tok {ns : List (List Nat)} (hn : ∀ n ∈ ns, NameOk n) : ∀ {t : Tm}, Wf ns t → TOk t
  | .walk w, h => ⟨h.1, by have := h.2; omega⟩
  | .name n, h => hn n h
  | .thn s t, h => ⟨Wf.tok hn h.1, Wf.tok hn h.2⟩
  | .back t, h => Wf.tok hn (t := t) h
  | .again k t, h => ⟨h.1, Wf.tok hn h.2⟩
  | .fr x s t, h => ⟨h.1, Wf.tok hn h.2.1, Wf.tok hn h.2.2⟩
theorem num_one {k : Nat} (h : k ≤ 6) : TL.numL k = [48 + k] := by
  have key : ∀ k : Nat, k ≤ 6 → TL.numL k = [48 + k] := by decide +kernel
  exact key k h
theorem txt_len {t : Tm} (h : TOk t) : (txt t).length + 20 ≤ 2000 * 2 ^ t.dp := by
  have mx : ∀ a b : Nat, 2 ^ a + 2 ^ b ≤ 2 ^ (max a b + 1) := fun a b => by
    have h1 : 2 ^ a ≤ 2 ^ max a b := Nat.pow_le_pow_right (by omega) (by omega)
    have h2 : 2 ^ b ≤ 2 ^ max a b := Nat.pow_le_pow_right (by omega) (by omega)
    rw [Nat.pow_succ]
    omega
  induction t with
  | walk w => have := h.2; simp [txt, Tm.dp]; omega
  | name n => have := h.2.1; simp [txt, Tm.dp]; omega
  | thn s t hs ht =>
    have := hs h.1
    have := ht h.2
    have := mx s.dp t.dp
    simp only [txt, Tm.dp, List.length_append, List.length_cons, List.length_nil]
    omega
  | back t ht =>
    have := ht h
    simp only [txt, Tm.dp, List.length_append, List.length_cons, List.length_nil, Nat.pow_succ]
    omega
  | again k t ht =>
    have := ht h.2
    simp only [txt, Tm.dp, List.length_append, List.length_cons, List.length_nil, Nat.pow_succ, num_one h.1]
    omega
  | fr x s t hs ht =>
    have := hs h.2.1
    have := ht h.2.2
    have := mx s.dp t.dp
    simp only [txt, Tm.dp, List.length_append, List.length_cons, List.length_nil]
    omega
theorem txt_8 {t : Tm} (h : TOk t) (h8 : t.dp < 8) : (txt t).length ≤ 256000 := by
  have := txt_len h
  have : 2 ^ t.dp ≤ 2 ^ 7 := Nat.pow_le_pow_right (by omega) (by omega)
  omega
theorem ptx_8 {t : Tm} (h : TOk t) (h8 : t.dp < 8) {p : D ⊕ Tm} (hp : p ∈ t.prx) : (ptx p).length ≤ 256000 := by
  cases t with
  | walk w =>
    have : p = .inl (.str w) := by simpa [Tm.prx] using hp
    subst this; have := h.2; simp only [ptx]; omega
  | name n =>
    have : p = .inl (.str n) := by simpa [Tm.prx] using hp
    subst this; have := h.2.1; simp only [ptx]; omega
  | thn s t =>
    have : p = .inr s ∨ p = .inr t := by simpa [Tm.prx] using hp
    rcases this with rfl | rfl
    · exact txt_8 h.1 (by simp only [Tm.dp] at h8; omega)
    · exact txt_8 h.2 (by simp only [Tm.dp] at h8; omega)
  | back t =>
    have : p = .inr t := by simpa [Tm.prx] using hp
    subst this; exact txt_8 (t := t) h (by simp only [Tm.dp] at h8; omega)
  | again k t =>
    have : p = .inl (.int k) ∨ p = .inr t := by simpa [Tm.prx] using hp
    rcases this with rfl | rfl
    · show (TL.numL ((k : Int).toNat)).length ≤ _
      rw [Int.toNat_natCast, num_one h.1]; simp
    · exact txt_8 h.2 (by simp only [Tm.dp] at h8; omega)
  | fr x s t =>
    have : p = .inl (.str [x]) ∨ p = .inr s ∨ p = .inr t := by simpa [Tm.prx] using hp
    rcases this with rfl | rfl | rfl
    · simp [ptx]
    · exact txt_8 h.2.1 (by simp only [Tm.dp] at h8; omega)
    · exact txt_8 h.2.2 (by simp only [Tm.dp] at h8; omega)
theorem prx_sub {t u : Tm} (h : .inr u ∈ t.prx) : u.dp < t.dp ∧ (TOk t → TOk u) := by
  cases t with
  | walk _ => simp [Tm.prx] at h
  | name _ => simp [Tm.prx] at h
  | thn s t =>
    have : u = s ∨ u = t := by simpa [Tm.prx] using h
    rcases this with rfl | rfl
    · exact ⟨by simp only [Tm.dp]; omega, fun h => h.1⟩
    · exact ⟨by simp only [Tm.dp]; omega, fun h => h.2⟩
  | back t =>
    have : u = t := by simpa [Tm.prx] using h
    subst this; exact ⟨by simp only [Tm.dp]; omega, fun h => h⟩
  | again k t =>
    have : u = t := by simpa [Tm.prx] using h
    subst this; exact ⟨by simp only [Tm.dp]; omega, fun h => h.2⟩
  | fr x s t =>
    have : u = s ∨ u = t := by simpa [Tm.prx] using h
    rcases this with rfl | rfl
    · exact ⟨by simp only [Tm.dp]; omega, fun h => h.2.1⟩
    · exact ⟨by simp only [Tm.dp]; omega, fun h => h.2.2⟩
theorem prx_inl {t : Tm} {d : D} (hl : t.leaf = false) (ht : TOk t) (h : .inl d ∈ t.prx) : (∃ x ∈ SM, d = .str [x]) ∨ ∃ k : Nat, k ≤ 6 ∧ d = .int k := by
  cases t with
  | walk _ => cases hl
  | name _ => cases hl
  | thn s t => simp [Tm.prx] at h
  | back t => simp [Tm.prx] at h
  | again k t => simp [Tm.prx] at h; exact .inr ⟨k, ht.1, h⟩
  | fr x s t => simp [Tm.prx] at h; exact .inl ⟨x, ht.1, h⟩
theorem prx_3 (t : Tm) : t.prx.length ≤ 3 := by cases t <;> simp [Tm.prx]
def m_law_term_text (j : Nat) : PM := fun ds st Q => match ds with
  | [t] => ∃ u : Tm, t = tmD u ∧ TOk u ∧ u.dp < j ∧ u.dp < 8 ∧ Q (.d (.str (txt u))) st
  | _ => False
theorem ttext_i {j : Nat} {u : Tm} {st : Sto} {Q : C → Sto → Prop} (h : TOk u) (h1 : u.dp < j) (h8 : u.dp < 8) (q : Q (.d (.str (txt u))) st) : m_law_term_text j [tmD u] st Q := ⟨u, rfl, h, h1, h8, q⟩
theorem no_law_term_text (ds : List D) (s : Sto) (Q : C → Sto → Prop) : ¬ m_law_term_text 0 ds s Q := fun h => by
  unfold m_law_term_text at h
  split at h
  · obtain ⟨_, _, _, h, _⟩ := h; omega
  · exact h
def t_law_term_text (j : Nat) : PTS := sSeq (sIf (tB (t2 (t2 (tName 0) (tD (.int 0)) pIx) (tD (.str [119, 97, 108, 107])) pEq)) (sRet (t2 (t2 (tD (.str [39])) (t2 (tName 0) (tD (.int 1)) pIx) pAdd) (tD (.str [39])) pAdd)) (sNext)) (sSeq (sIf (tB (t2 (t2 (tName 0) (tD (.int 0)) pIx) (tD (.str [110, 97, 109, 101])) pEq)) (sRet (t2 (tName 0) (tD (.int 1)) pIx)) (sNext)) (sSeq (sAsg 1 (t2 (tD (.str [40])) (t2 (tName 0) (tD (.int 0)) pIx) pAdd)) (sSeq (sFor (iAny (tSl (tName 0) (oSome (tD (.int 1))) (oNone))) (gName 2) (sIf (tB (tIsi "tuple" (tName 2))) (sAsg 1 (t2 (t2 (tName 1) (tD (.str [32])) pAdd) (tCall0 (m_law_term_text j) (tCons (tName 2) (tNil))) pAdd)) (sAsg 1 (t2 (t2 (tName 1) (tD (.str [32])) pAdd) (tCallP pStrA (rCons (tName 2) (rNil))) pAdd)))) (sRet (t2 (tName 1) (tD (.str [41])) pAdd)))))
abbrev N_law_term_text : List Str := ["_law_term_here", "_law_found", "_law_part"]
theorem len_law_term_text (j : Nat) (ds : List D) (s : Sto) (Q : C → Sto → Prop) (h : m_law_term_text j ds s Q) : ds.length = 1 := by
  unfold m_law_term_text at h
  split at h
  · rfl
  · exact h.elim
def tt_body (j : Nat) : PTS := sIf (tB (tIsi "tuple" (tName 2))) (sAsg 1 (t2 (t2 (tName 1) (tD (.str [32])) pAdd) (tCall0 (m_law_term_text j) (tCons (tName 2) (tNil))) pAdd)) (sAsg 1 (t2 (t2 (tName 1) (tD (.str [32])) pAdd) (tCallP pStrA (rCons (tName 2) (rNil))) pAdd))
theorem tt_loop {j : Nat} {t : Tm} (hl : t.leaf = false) (ht : TOk t) (h : t.dp < j + 1) (h8 : t.dp < 8) {c0 c2 : C} {s : Sto} {P : PEn} (q : ∀ c2, P.nx ⟨[c0, .d (.str ([40] ++ t.kwx ++ (t.prx.map fun p => 32 :: ptx p).flatten)), c2], s⟩) :
    forH (t.prx.map prx) ⟨[c0, .d (.str ([40] ++ t.kwx)), c2], s⟩ (HB.mk (gName 2, tt_body j, noX, P) ()) := by
  have sm := prx_3 t
  have kw : t.kwx.length ≤ 5 := by cases t <;> simp [Tm.kwx]
  refine forH_map prx t.prx (fun pre _ e => ∃ c2, e = ⟨[c0, .d (.str ([40] ++ t.kwx ++ (pre.map fun p => 32 :: ptx p).flatten)), c2], s⟩) ⟨c2, by simp⟩ (fun e h => by obtain ⟨c2, rfl⟩ := h; exact q c2) ?_
  rintro pre u suf e hp ⟨c2, rfl⟩ N hN
  have hu : u ∈ t.prx := by rw [← hp]; simp
  have l1 := ptx_8 ht h8 hu
  have l3 : pre.length ≤ 3 := by
    have := congrArg List.length hp
    simp at this
    omega
  have l2 : ∀ l : List (D ⊕ Tm), (∀ p ∈ l, p ∈ t.prx) → ((l.map fun p => 32 :: ptx p).flatten).length ≤ 256001 * l.length := fun l => by
    induction l with
    | nil => intro _; simp
    | cons a l ih =>
      intro h
      have := ih fun u hu => h u (List.mem_cons_of_mem _ hu)
      have := ptx_8 ht h8 (h a (by simp))
      rw [List.map_cons, List.flatten_cons, List.length_append, List.length_cons, List.length_cons]
      omega
  have l4 := l2 pre fun v hv => by rw [← hp]; simp [hv]
  have e2 : [40] ++ t.kwx ++ ((pre ++ [u]).map fun p => 32 :: ptx p).flatten = [40] ++ t.kwx ++ (pre.map fun p => 32 :: ptx p).flatten ++ [32] ++ ptx u := by simp
  have N1 := hN ⟨[c0, .d (.str ([40] ++ t.kwx ++ (pre.map fun p => 32 :: ptx p).flatten ++ [32] ++ ptx u)), .d (prx u)], s⟩ ⟨_, by rw [e2]⟩
  generalize hA : [40] ++ t.kwx ++ (pre.map fun p => 32 :: ptx p).flatten = A at N1 ⊢
  have lA : A.length ≤ 800000 := by rw [← hA]; simp only [List.length_append, List.length_cons, List.length_nil]; omega
  unfold tt_body
  cases u with
  | inl d =>
    show gName 2 d _ _
    rcases prx_inl hl ht hu with ⟨w, _, rfl⟩ | ⟨i, hi, rfl⟩
    · simpa?! only []
      refine opt_of (a := false) (by decide +kernel) ?_
      simpa?! only []
      exact ⟨by omega, by rw [List.length_append, List.length_singleton]; omega, N1⟩
    · simpa?! only []
      refine opt_of (a := false) (by decide +kernel) ?_
      simpa?! only []
      have l5 : (TL.numL i).length ≤ 1 := by rw [num_one hi]; simp
      rw [Int.toNat_natCast]
      exact ⟨by omega, by omega, by omega, by rw [List.length_append, List.length_singleton]; omega, N1⟩
  | inr u =>
    obtain ⟨du, tu⟩ := prx_sub hu
    have ety : (tmD u).tyN = some "tuple" := by cases u <;> rfl
    show gName 2 (tmD u) _ _
    simpa?! only [ety]
    refine opt_of (a := true) (by decide +kernel) ?_
    simpa?! only []
    refine ⟨by omega, ttext_i (tu ht) (by omega) (by omega) ?_⟩
    simpa?! only []
    exact ⟨by rw [List.length_append, List.length_singleton]; have : (txt u).length ≤ 256000 := l1; omega, N1⟩
theorem p_law_term_text (j : Nat) (ds : List D) (s : Sto) (Q : C → Sto → Prop) (h : m_law_term_text (j + 1) ds s Q) : t_law_term_text j noX { nx := fun e => Q (.d .non) e.st, rt := fun c e => Q c e.st } ⟨startC N_law_term_text ds, s⟩ := by
  unfold m_law_term_text at h
  split at h
  · obtain ⟨u, rfl, h0, h1, h2, q⟩ := h
    have L := fun (hl : u.leaf = false) (c0 : C) => tt_loop (j := j) (t := u) hl h0 h1 h2 (c0 := c0) (c2 := .un) (s := s) (P := { nx := sRet (t2 (tName 1) (tD (.str [41])) pAdd) noX { nx := fun e => Q (.d .non) e.st, rt := fun c e => Q c e.st }, rt := fun c e => Q c e.st })
    have e := txt_prx u
    have tl := txt_8 h0 h2
    generalize hR : tt_body j = RR at L
    have hR' : RR = _ := hR.symm
    unfold tt_body at hR'
    unfold t_law_term_text
    rw [← hR']
    cases u with
    | walk w =>
      have := h0.2
      unfold tmD
      simpa?! only []
      refine at_head rfl ?_
      simpa?! only []
      refine opt_of (a := .str w) rfl ?_
      simpa?! only []
      exact ⟨by omega, by omega, q⟩
    | name n =>
      unfold tmD
      simpa?! only []
      refine at_head rfl ?_
      simpa?! only []
      refine br_neg rfl ?_
      simpa?! only []
      refine at_head rfl ?_
      simpa?! only []
      refine opt_of (a := .str n) rfl ?_
      simpa?! only []
      exact q
    | thn u v =>
      have e := e rfl
      rw [e] at q tl
      have L := L rfl
      have ec : cut [D.str kThen, tmD u, tmD v] (some 1) none = (Tm.prx (.thn u v)).map prx := rfl
      unfold tmD
      simpa?! only []
      refine at_head rfl ?_
      simpa?! only []
      refine br_neg rfl ?_
      simpa?! only []
      refine at_head rfl ?_
      simpa?! only []
      refine br_neg rfl ?_
      simpa?! only []
      refine at_head rfl ?_
      simpa?! only []
      rw [ec]
      refine L _ fun c2 => ?_
      simpa?! only []
      exact ⟨by simp only [List.length_append, List.length_singleton, List.length_cons, List.length_nil] at tl ⊢; omega, q⟩
    | back u =>
      have e := e rfl
      rw [e] at q tl
      have L := L rfl
      have ec : cut [D.str kBack, tmD u] (some 1) none = (Tm.prx (.back u)).map prx := rfl
      unfold tmD
      simpa?! only []
      refine at_head rfl ?_
      simpa?! only []
      refine br_neg rfl ?_
      simpa?! only []
      refine at_head rfl ?_
      simpa?! only []
      refine br_neg rfl ?_
      simpa?! only []
      refine at_head rfl ?_
      simpa?! only []
      rw [ec]
      refine L _ fun c2 => ?_
      simpa?! only []
      exact ⟨by simp only [List.length_append, List.length_singleton, List.length_cons, List.length_nil] at tl ⊢; omega, q⟩
    | again k u =>
      have e := e rfl
      rw [e] at q tl
      have L := L rfl
      have ec : cut [D.str kAgain, D.int k, tmD u] (some 1) none = (Tm.prx (.again k u)).map prx := rfl
      unfold tmD
      simpa?! only []
      refine at_head rfl ?_
      simpa?! only []
      refine br_neg rfl ?_
      simpa?! only []
      refine at_head rfl ?_
      simpa?! only []
      refine br_neg rfl ?_
      simpa?! only []
      refine at_head rfl ?_
      simpa?! only []
      rw [ec]
      refine L _ fun c2 => ?_
      simpa?! only []
      exact ⟨by simp only [List.length_append, List.length_singleton, List.length_cons, List.length_nil] at tl ⊢; omega, q⟩
    | fr x u v =>
      have e := e rfl
      rw [e] at q tl
      have L := L rfl
      have ec : cut [D.str kFor, D.str [x], tmD u, tmD v] (some 1) none = (Tm.prx (.fr x u v)).map prx := rfl
      unfold tmD
      simpa?! only []
      refine at_head rfl ?_
      simpa?! only []
      refine br_neg rfl ?_
      simpa?! only []
      refine at_head rfl ?_
      simpa?! only []
      refine br_neg rfl ?_
      simpa?! only []
      refine at_head rfl ?_
      simpa?! only []
      rw [ec]
      refine L _ fun c2 => ?_
      simpa?! only []
      exact ⟨by simp only [List.length_append, List.length_singleton, List.length_cons, List.length_nil] at tl ⊢; omega, q⟩
  · exact h.elim
def m_show_term (j : Nat) : PM := fun ds st Q => match ds with
  | [t] => ∃ u : Tm, t = tmD u ∧ TOk u ∧ u.dp < j ∧ u.dp < 8 ∧ Q (.d (.str (txt u))) st
  | _ => False
theorem sterm_i {j : Nat} {u : Tm} {st : Sto} {Q : C → Sto → Prop} (h : TOk u) (h1 : u.dp < j) (h8 : u.dp < 8) (q : Q (.d (.str (txt u))) st) : m_show_term j [tmD u] st Q := ⟨u, rfl, h, h1, h8, q⟩
theorem no_show_term (ds : List D) (s : Sto) (Q : C → Sto → Prop) : ¬ m_show_term 0 ds s Q := fun h => by
  unfold m_show_term at h
  split at h
  · obtain ⟨_, _, _, h, _⟩ := h; omega
  · exact h
def t_show_term (j : Nat) : PTS := sSeq (sIf (tB (t2 (t2 (tName 0) (tD (.int 0)) pIx) (tD (.str [119, 97, 108, 107])) pEq)) (sRet (t2 (t2 (tD (.str [39])) (t2 (tName 0) (tD (.int 1)) pIx) pAdd) (tD (.str [39])) pAdd)) (sNext)) (sSeq (sIf (tB (t2 (t2 (tName 0) (tD (.int 0)) pIx) (tD (.str [110, 97, 109, 101])) pEq)) (sRet (t2 (tName 0) (tD (.int 1)) pIx)) (sNext)) (sSeq (sAsg 1 (tLst (tCons (t2 (tName 0) (tD (.int 0)) pIx) (tNil)))) (sSeq (sFor (iZipG [([116, 104, 101, 110], [[116, 101, 114, 109], [116, 101, 114, 109]]), ([98, 97, 99, 107], [[116, 101, 114, 109]]), ([97, 103, 97, 105, 110], [[116, 105, 109, 101, 115], [116, 101, 114, 109]]), ([102, 111, 114], [[108, 101, 116, 116, 101, 114], [116, 101, 114, 109], [116, 101, 114, 109]])] (t2 (tName 0) (tD (.int 0)) pIx) (tSl (tName 0) (oSome (tD (.int 1))) (oNone))) (gTup 2 (gCons (gName 2) (gCons (gName 3) (gNil)))) (sIf (tB (t2 (tName 2) (tD (.str [116, 101, 114, 109])) pEq)) (sDrop (tMut mAppend (tName 1) (tCons (tCall0 (m_show_term j) (tCons (tName 3) (tNil))) (tNil)))) (sDrop (tMut mAppend (tName 1) (tCons (tCallP pStrA (rCons (tName 3) (rNil))) (tNil)))))) (sRet (t2 (t2 (tD (.str [40])) (tMeth "str" pJoin (tD (.str [32])) (rCons (tName 1) (rNil))) pAdd) (tD (.str [41])) pAdd)))))
abbrev N_show_term : List Str := ["term", "found", "sort", "part"]
theorem len_show_term (j : Nat) (ds : List D) (s : Sto) (Q : C → Sto → Prop) (h : m_show_term j ds s Q) : ds.length = 1 := by
  unfold m_show_term at h
  split at h
  · rfl
  · exact h.elim
def st_body (j : Nat) : PTS := sIf (tB (t2 (tName 2) (tD (.str [116, 101, 114, 109])) pEq)) (sDrop (tMut mAppend (tName 1) (tCons (tCall0 (m_show_term j) (tCons (tName 3) (tNil))) (tNil)))) (sDrop (tMut mAppend (tName 1) (tCons (tCallP pStrA (rCons (tName 3) (rNil))) (tNil))))
def prz (p : D ⊕ Tm) : D := .tup [.str (srtx p), prx p]
theorem st_loop {j : Nat} {t : Tm} (hl : t.leaf = false) (ht : TOk t) (h : t.dp < j + 1) (h8 : t.dp < 8) {c0 c2 c3 : C} {s : Sto} {P : PEn} (q : ∀ c2 c3, P.nx ⟨[c0, .own ((t.kwx :: t.prx.map ptx).map D.str), c2, c3], s⟩) :
    forH (t.prx.map prz) ⟨[c0, .own [.str t.kwx], c2, c3], s⟩ (HB.mk (gTup 2 (gCons (gName 2) (gCons (gName 3) gNil)), st_body j, noX, P) ()) := by
  have sm := prx_3 t
  refine forH_map prz t.prx (fun pre _ e => ∃ c2 c3, e = ⟨[c0, .own ((t.kwx :: pre.map ptx).map D.str), c2, c3], s⟩) ⟨c2, c3, by simp⟩ (fun e h => by obtain ⟨c2, c3, rfl⟩ := h; exact q c2 c3) ?_
  rintro pre u suf e hp ⟨c2, c3, rfl⟩ N hN
  have hu : u ∈ t.prx := by rw [← hp]; simp
  have l3 : pre.length ≤ 3 := by
    have := congrArg List.length hp
    simp at this
    omega
  have e2 : ((t.kwx :: (pre ++ [u]).map ptx).map D.str) = (t.kwx :: pre.map ptx).map D.str ++ [.str (ptx u)] := by simp
  have N1 := hN ⟨[c0, .own ((t.kwx :: pre.map ptx).map D.str ++ [.str (ptx u)]), .d (.str (srtx u)), .d (prx u)], s⟩ ⟨_, _, by rw [e2]⟩
  have lA : ((t.kwx :: pre.map ptx).map D.str).length ≤ 4 := by simp; omega
  generalize hA : (t.kwx :: pre.map ptx).map D.str = A at N1 lA ⊢
  unfold st_body
  unfold prz
  cases u with
  | inl d =>
    rcases prx_inl hl ht hu with ⟨w, _, rfl⟩ | ⟨i, hi, rfl⟩
    · have e1 : srtx (.inl (.str [w])) = [108, 101, 116, 116, 101, 114] := rfl
      have e2 : prx (.inl (.str [w])) = .str [w] := rfl
      have e3 : ptx (.inl (.str [w])) = [w] := rfl
      rw [e1, e2, e3] at N1
      rw [e1, e2]
      simpa?! only []
      refine br_neg rfl ?_
      simpa?! only []
      exact ⟨by omega, N1⟩
    · have e1 : srtx (.inl (.int (i : Int))) = [116, 105, 109, 101, 115] := rfl
      have e2 : prx (.inl (.int (i : Int))) = .int i := rfl
      have e3 : ptx (.inl (.int (i : Int))) = TL.numL i := rfl
      rw [e1, e2, e3] at N1
      rw [e1, e2]
      simpa?! only []
      refine br_neg rfl ?_
      simpa?! only []
      exact ⟨by omega, by omega, by omega, N1⟩
  | inr u =>
    obtain ⟨du, tu⟩ := prx_sub hu
    have e1 : srtx (.inr u) = [116, 101, 114, 109] := rfl
    have e2 : prx (.inr u) = tmD u := rfl
    have e3 : ptx (.inr u) = txt u := rfl
    rw [e1, e2, e3] at N1
    rw [e1, e2]
    simpa?! only []
    refine sterm_i (tu ht) (by omega) (by omega) ?_
    simpa?! only []
    exact ⟨by omega, N1⟩
theorem joinL_32 (a : List Nat) : ∀ l : List (List Nat), joinN [32] (a :: l) = a ++ (l.map fun x => 32 :: x).flatten
  | [] => by simp [joinN]
  | b :: l => by
    show a ++ ([32] ++ joinN [32] (b :: l)) = _
    rw [joinL_32 b l]
    simp
theorem st_end {t : Tm} (hl : t.leaf = false) (ht : TOk t) (h8 : t.dp < 8) {Q : D → Prop} (q : Q (.str (txt t))) :
    (t.kwx.length :: List.map List.length (List.map ptx t.prx)).sum + ((List.map ptx t.prx).length + 1) * 1 ≤ 16777216 ∧ 1 + (t.kwx ++ (List.map (fun x => 32 :: x) (List.map ptx t.prx)).flatten).length ≤ 16777216 ∧ (t.kwx ++ (List.map (fun x => 32 :: x) (List.map ptx t.prx)).flatten).length ≤ 16777214 ∧ Q (.str (40 :: (t.kwx ++ (List.map (fun x => 32 :: x) (List.map ptx t.prx)).flatten ++ [41]))) := by
  have s1 : ∀ l : List (D ⊕ Tm), (∀ p ∈ l, p ∈ t.prx) → ((l.map ptx).map List.length).sum ≤ 256000 * l.length := fun l => by
    induction l with
    | nil => intro _; simp
    | cons a l ih =>
      intro h
      have := ih fun u hu => h u (List.mem_cons_of_mem _ hu)
      have := ptx_8 ht h8 (h a (by simp))
      rw [List.map_cons, List.map_cons, List.sum_cons, List.length_cons]
      omega
  have s2 := s1 t.prx fun p h => h
  have s3 := prx_3 t
  have kw : t.kwx.length ≤ 5 := by cases t <;> simp [Tm.kwx]
  have e := txt_prx t hl
  have tl := txt_8 ht h8
  have e2 : (List.map (fun x => 32 :: x) (List.map ptx t.prx)).flatten = (t.prx.map fun p => 32 :: ptx p).flatten := by rw [List.map_map]; rfl
  rw [e2]
  rw [e] at tl q
  simp only [List.length_append, List.length_singleton, List.length_cons, List.length_nil] at tl
  refine ⟨?_, by rw [List.length_append]; omega, by rw [List.length_append]; omega, ?_⟩
  · rw [List.sum_cons, List.length_map]; omega
  · simpa using q
theorem p_show_term (j : Nat) (ds : List D) (s : Sto) (Q : C → Sto → Prop) (h : m_show_term (j + 1) ds s Q) : t_show_term j noX { nx := fun e => Q (.d .non) e.st, rt := fun c e => Q c e.st } ⟨startC N_show_term ds, s⟩ := by
  unfold m_show_term at h
  split at h
  · obtain ⟨u, rfl, h0, h1, h2, q⟩ := h
    have L := fun (hl : u.leaf = false) (c0 : C) => st_loop (j := j) (t := u) hl h0 h1 h2 (c0 := c0) (c2 := .un) (c3 := .un) (s := s) (P := { nx := sRet (t2 (t2 (tD (.str [40])) (tMeth "str" pJoin (tD (.str [32])) (rCons (tName 1) (rNil))) pAdd) (tD (.str [41])) pAdd) noX { nx := fun e => Q (.d .non) e.st, rt := fun c e => Q c e.st }, rt := fun c e => Q c e.st })
    have e := txt_prx u
    have tl := txt_8 h0 h2
    generalize hR : st_body j = RR at L
    have hR' : RR = _ := hR.symm
    unfold st_body at hR'
    unfold t_show_term
    rw [← hR']
    cases u with
    | walk w =>
      have := h0.2
      unfold tmD
      simpa?! only []
      refine at_head rfl ?_
      simpa?! only []
      refine opt_of (a := .str w) rfl ?_
      simpa?! only []
      exact ⟨by omega, by omega, q⟩
    | name n =>
      unfold tmD
      simpa?! only []
      refine at_head rfl ?_
      simpa?! only []
      refine br_neg rfl ?_
      simpa?! only []
      refine at_head rfl ?_
      simpa?! only []
      refine opt_of (a := .str n) rfl ?_
      simpa?! only []
      exact q
    | thn u v =>
      have e := e rfl
      rw [e] at q tl
      have L := L rfl
      have ec : zipF ([[116, 101, 114, 109], [116, 101, 114, 109]].map D.str) (cut [D.str kThen, tmD u, tmD v] (some 1) none) = (Tm.prx (.thn u v)).map prz := rfl
      unfold tmD
      simpa?! only []
      refine at_head rfl ?_
      simpa?! only []
      refine br_neg rfl ?_
      simpa?! only []
      refine at_head rfl ?_
      simpa?! only []
      refine br_neg rfl ?_
      simpa?! only []
      refine at_head rfl ?_
      simpa?! only []
      refine at_head rfl ?_
      simpa?! only []
      refine opt_of (a := [[116, 101, 114, 109], [116, 101, 114, 109]]) rfl ?_
      simpa?! only []
      refine L _ fun c2 c3 => ?_
      simpa?! only [strL_map, joinL_32]
      exact st_end (t := .thn u v) rfl h0 h2 (Q := fun d => Q (.d d) s) (by rw [txt_prx _ rfl]; exact q)
    | back u =>
      have e := e rfl
      rw [e] at q tl
      have L := L rfl
      have ec : zipF ([[116, 101, 114, 109]].map D.str) (cut [D.str kBack, tmD u] (some 1) none) = (Tm.prx (.back u)).map prz := rfl
      unfold tmD
      simpa?! only []
      refine at_head rfl ?_
      simpa?! only []
      refine br_neg rfl ?_
      simpa?! only []
      refine at_head rfl ?_
      simpa?! only []
      refine br_neg rfl ?_
      simpa?! only []
      refine at_head rfl ?_
      simpa?! only []
      refine at_head rfl ?_
      simpa?! only []
      refine opt_of (a := [[116, 101, 114, 109]]) rfl ?_
      refine L _ fun c2 c3 => ?_
      simpa?! only [strL_map, joinL_32]
      exact st_end (t := .back u) rfl h0 h2 (Q := fun d => Q (.d d) s) (by rw [txt_prx _ rfl]; exact q)
    | again k u =>
      have e := e rfl
      rw [e] at q tl
      have L := L rfl
      have ec : zipF ([[116, 105, 109, 101, 115], [116, 101, 114, 109]].map D.str) (cut [D.str kAgain, D.int k, tmD u] (some 1) none) = (Tm.prx (.again k u)).map prz := rfl
      unfold tmD
      simpa?! only []
      refine at_head rfl ?_
      simpa?! only []
      refine br_neg rfl ?_
      simpa?! only []
      refine at_head rfl ?_
      simpa?! only []
      refine br_neg rfl ?_
      simpa?! only []
      refine at_head rfl ?_
      simpa?! only []
      refine at_head rfl ?_
      simpa?! only []
      refine opt_of (a := [[116, 105, 109, 101, 115], [116, 101, 114, 109]]) rfl ?_
      refine L _ fun c2 c3 => ?_
      simpa?! only [strL_map, joinL_32]
      exact st_end (t := .again k u) rfl h0 h2 (Q := fun d => Q (.d d) s) (by rw [txt_prx _ rfl]; exact q)
    | fr x u v =>
      have e := e rfl
      rw [e] at q tl
      have L := L rfl
      have ec : zipF ([[108, 101, 116, 116, 101, 114], [116, 101, 114, 109], [116, 101, 114, 109]].map D.str) (cut [D.str kFor, D.str [x], tmD u, tmD v] (some 1) none) = (Tm.prx (.fr x u v)).map prz := rfl
      unfold tmD
      simpa?! only []
      refine at_head rfl ?_
      simpa?! only []
      refine br_neg rfl ?_
      simpa?! only []
      refine at_head rfl ?_
      simpa?! only []
      refine br_neg rfl ?_
      simpa?! only []
      refine at_head rfl ?_
      simpa?! only []
      refine at_head rfl ?_
      simpa?! only []
      refine opt_of (a := [[108, 101, 116, 116, 101, 114], [116, 101, 114, 109], [116, 101, 114, 109]]) rfl ?_
      refine L _ fun c2 c3 => ?_
      simpa?! only [strL_map, joinL_32]
      exact st_end (t := .fr x u v) rfl h0 h2 (Q := fun d => Q (.d d) s) (by rw [txt_prx _ rfl]; exact q)
  · exact h.elim
set_option maxRecDepth 100000
set_option maxHeartbeats 1000000
def m_is_name : PM := fun ds st Q => match ds with
  | [.str w] => NameOk w ∧ Q (.d (.bl true)) st
  | _ => False
theorem e_isn {w s Q} : m_is_name [.str w] s Q = (NameOk w ∧ Q (.d (.bl true)) s) := rfl
def t_is_name : PTS := sSeq (sIf (tOr (tB (t2 (tName 0) (tD (.str [])) pEq)) (tOr (tB (t2 (tCallP pLen (rCons (tName 0) (rNil))) (tD (.int 6)) pGt)) (tB (tKIn false [[116, 104, 101, 110], [98, 97, 99, 107], [97, 103, 97, 105, 110], [102, 111, 114]] (tName 0))))) (sRet (tD (.bl false))) (sNext)) (sRet (tCallP pAll (rCons (cLc (iAny (tName 0)) (gName 1) (cYes) (t2 (tName 1) (tD (.str SM)) (pIn false)) [1]) (rNil))))
abbrev N_is_name : List Str := ["text", "sign"]
theorem len_is_name (ds : List D) (s : Sto) (Q : C → Sto → Prop) (h : m_is_name ds s Q) : ds.length = 1 := by
  unfold m_is_name at h
  split at h
  · rfl
  · exact h.elim
theorem p_is_name (ds : List D) (s : Sto) (Q : C → Sto → Prop) (h : m_is_name ds s Q) : t_is_name noX { nx := fun e => Q (.d .non) e.st, rt := fun c e => Q c e.st } ⟨startC N_is_name ds, s⟩ := by
  unfold m_is_name at h
  split at h
  · rename_i w
    obtain ⟨⟨h1, h2, h3, h4⟩, q⟩ := h
    unfold t_is_name
    simpa?! only []
    refine br_neg (decide_eq_false h1) ?_
    simpa?! only []
    refine br_neg (decide_eq_false (by omega)) ?_
    simpa?! only []
    refine br_neg (decide_eq_false h4) ?_
    simpa?! only []
    refine ⟨by unfold signs; rw [List.length_map]; omega, ?_⟩
    refine lcH_rel (fun _ y => y = .bl true) (fun d hd K k => ?_) fun ys hys => ?_
    · obtain ⟨c, hc, rfl⟩ := List.mem_map.mp hd
      simpa?! only []
      rw [decide_eq_true (h3 c hc)]
      exact k _ rfl
    simpa?! only []
    refine pAll_true (fun d hd => ?_) ?_
    · have : ∀ {ds ys : List D}, All2 (fun _ y => y = D.bl true) ds ys → ∀ d ∈ ys, d = .bl true := fun h => by
        induction h with
        | nil => intro d hd; cases hd
        | cons r _ ih => intro d hd; exact (List.mem_cons.mp hd).elim (fun z => z ▸ r) (ih d)
      exact this hys d hd
    simpa?! only []
    exact q
  · exact h.elim
/-- the fields of a reading -/
def rtF (tx : List Nat) (r a : Int) : List (Str × D) := [("text", .str tx), ("row", .int r), ("at", .int a)]
def RtAt (st : Sto) (k : Nat) (tx : List Nat) (r a : Int) : Prop := st[k]? = some (.ins 20 (rtF tx r a))
def m_RowText___init__ : PM := fun ds st Q => match ds with
  | [.ref k, .str tx, .int r] => st[k]? = some (.ins 20 []) ∧ Q (.d .non) (st.set k (.ins 20 (rtF tx r 0)))
  | _ => False
def t_RowText___init__ : PTS := sSeq (sFldZ 20 "text" (tName 0) (tName 1)) (sSeq (sFldZ 20 "row" (tName 0) (tName 2)) (sFldZ 20 "at" (tName 0) (tD (.int 0))))
abbrev N_RowText___init__ : List Str := ["self", "text", "row"]
theorem len_RowText___init__ (ds : List D) (s : Sto) (Q : C → Sto → Prop) (h : m_RowText___init__ ds s Q) : ds.length = 3 := by
  unfold m_RowText___init__ at h
  split at h
  · rfl
  · exact h.elim
theorem p_RowText___init__ (ds : List D) (s : Sto) (Q : C → Sto → Prop) (h : m_RowText___init__ ds s Q) : t_RowText___init__ noX { nx := fun e => Q (.d .non) e.st, rt := fun c e => Q c e.st } ⟨startC N_RowText___init__ ds, s⟩ := by
  unfold m_RowText___init__ at h
  split at h
  · rename_i k tx r
    obtain ⟨h0, q⟩ := h
    have hk := (List.getElem?_eq_some_iff.mp h0).1
    unfold t_RowText___init__
    simpa?! only []
    refine putH_of (fs := []) h0 (by decide) ?_
    simpa?! only []
    refine putH_of (fs := setFD (Str.ofString "text") (.str tx) []) (List.getElem?_set_self hk) (show 1 < 1000 by decide) ?_
    rw [List.set_set]
    simpa?! only []
    refine putH_of (fs := setFD (Str.ofString "row") (.int r) (setFD (Str.ofString "text") (.str tx) [])) (List.getElem?_set_self hk) (show 2 < 1000 by decide) ?_
    rw [List.set_set]
    exact q
  · exact h.elim
def m_RowText_need : PM := fun ds st Q => match ds with
  | [.ref k, .bl b] => b = true ∧ Q (.d .non) st
  | _ => False
theorem e_need {k b s Q} : m_RowText_need [.ref k, .bl b] s Q = (b = true ∧ Q (.d .non) s) := rfl
def t_RowText_need : PTS := sIf (tNot (tB (tName 1))) (sNever) (sNext)
abbrev N_RowText_need : List Str := ["self", "good"]
theorem len_RowText_need (ds : List D) (s : Sto) (Q : C → Sto → Prop) (h : m_RowText_need ds s Q) : ds.length = 2 := by
  unfold m_RowText_need at h
  split at h
  · rfl
  · exact h.elim
theorem p_RowText_need (ds : List D) (s : Sto) (Q : C → Sto → Prop) (h : m_RowText_need ds s Q) : t_RowText_need noX { nx := fun e => Q (.d .non) e.st, rt := fun c e => Q c e.st } ⟨startC N_RowText_need ds, s⟩ := by
  unfold m_RowText_need at h
  split at h
  · rename_i k b
    obtain ⟨rfl, q⟩ := h
    unfold t_RowText_need
    simpa?! only []
    exact q
  · exact h.elim
def m_RowText_sign : PM := fun ds st Q => match ds with
  | [.ref k] => ∃ (tx : List Nat) (r : Int) (a : Nat), RtAt st k tx r a ∧ a ≤ 16777216 ∧ Q (.d (.str ((tx.drop a).take 1))) st
  | _ => False
theorem sign_i {k a : Nat} {tx : List Nat} {r : Int} {st : Sto} {Q : C → Sto → Prop} (h : RtAt st k tx r a) (ha : a ≤ 16777216) (q : Q (.d (.str ((tx.drop a).take 1))) st) : m_RowText_sign [.ref k] st Q := ⟨tx, r, a, h, ha, q⟩
def t_RowText_sign : PTS := sRet (tSl (tFldP 20 "text" (tName 0)) (oSome (tFldP 20 "at" (tName 0))) (oSome (t2 (tFldP 20 "at" (tName 0)) (tD (.int 1)) pAdd)))
abbrev N_RowText_sign : List Str := ["self"]
theorem len_RowText_sign (ds : List D) (s : Sto) (Q : C → Sto → Prop) (h : m_RowText_sign ds s Q) : ds.length = 1 := by
  unfold m_RowText_sign at h
  split at h
  · rfl
  · exact h.elim
theorem p_RowText_sign (ds : List D) (s : Sto) (Q : C → Sto → Prop) (h : m_RowText_sign ds s Q) : t_RowText_sign noX { nx := fun e => Q (.d .non) e.st, rt := fun c e => Q c e.st } ⟨startC N_RowText_sign ds, s⟩ := by
  unfold m_RowText_sign at h
  split at h
  · rename_i k
    obtain ⟨tx, r, a, h0, ha, q⟩ := h
    unfold t_RowText_sign
    simpa?! only []
    refine opt_of (a := .str tx) (getF_of h0) ?_
    simpa?! only []
    refine opt_of (a := .int a) (getF_of h0) ?_
    simpa?! only []
    refine opt_of (a := .int a) (getF_of h0) ?_
    simpa?! only []
    have ec : cut tx (some (a : Int)) (some ((a : Int) + 1)) = (tx.drop a).take 1 := by
      have := cut_mid tx a (a + 1)
      rw [show ((a : Int) + 1) = ((a + 1 : Nat) : Int) by omega, this, List.drop_take, Nat.add_sub_cancel_left]
    rw [ec]
    exact q
  · exact h.elim
theorem RtAt.noF {st : Sto} {k : Nat} {tx : List Nat} {r a : Int} (h : RtAt st k tx r a) {f : Str} (hf : (rtF tx r a).lookup f = none) : noF 20 f st (.ref k) := noF_of h hf
theorem RtAt.get {st : Sto} {k : Nat} {tx : List Nat} {r a : Int} (h : RtAt st k tx r a) {f : Str} {d : D} (hf : (rtF tx r a).lookup f = some d) : getF 20 f st (.ref k) = some d := (getF_of h).trans hf
theorem RtAt.lt {st : Sto} {k : Nat} {tx : List Nat} {r a : Int} (h : RtAt st k tx r a) : k < st.length := (List.getElem?_eq_some_iff.mp h).1
theorem RtAt.set {st : Sto} {k : Nat} {tx : List Nat} {r a b : Int} (h : RtAt st k tx r a) : RtAt (st.set k (.ins 20 (rtF tx r b))) k tx r b := List.getElem?_set_self h.lt
theorem rt_set {st : Sto} {k : Nat} {x y : SO} : (st.set k x).set k y = st.set k y := List.set_set ..
/-- at set -/
theorem put_at {k : Nat} {tx : List Nat} {r a : Int} {b : Int} {sl : List C} {st : Sto} {N : En → Prop} (h : RtAt st k tx r a) (q : N ⟨sl, st.set k (.ins 20 (rtF tx r b))⟩) : putH (.int b) (.ref k) ⟨sl, st⟩ (HB.mk (20, "at", N) ()) := putH_of h (show 3 < 1000 by decide) q
def m_RowText_go_past : PM := fun ds st Q => match ds with
  | [.ref k, .str s] => ∃ (tx : List Nat) (r : Int) (a : Nat), RtAt st k tx r a ∧ a ≤ 16777216 ∧ (tx.drop a).take 1 = s ∧ Q (.d .non) (st.set k (.ins 20 (rtF tx r ((a + 1 : Nat) : Int))))
  | _ => False
theorem past_i {k a : Nat} {tx s : List Nat} {r : Int} {st : Sto} {Q : C → Sto → Prop} (h : RtAt st k tx r a) (ha : a ≤ 16777216) (hs : (tx.drop a).take 1 = s) (q : Q (.d .non) (st.set k (.ins 20 (rtF tx r ((a + 1 : Nat) : Int))))) : m_RowText_go_past [.ref k, .str s] st Q := ⟨tx, r, a, h, ha, hs, q⟩
def t_RowText_go_past : PTS := sSeq (sDrop (tMethP 20 "need" m_RowText_need (tName 0) (tCons (t2 (tMethP 20 "sign" m_RowText_sign (tName 0) tNil) (tName 1) pEq) (tNil)))) (sFldZ 20 "at" (tName 0) (t2 (tFldP 20 "at" (tName 0)) (tD (.int 1)) pAdd))
abbrev N_RowText_go_past : List Str := ["self", "sign"]
theorem len_RowText_go_past (ds : List D) (s : Sto) (Q : C → Sto → Prop) (h : m_RowText_go_past ds s Q) : ds.length = 2 := by
  unfold m_RowText_go_past at h
  split at h
  · rfl
  · exact h.elim
theorem p_RowText_go_past (ds : List D) (s : Sto) (Q : C → Sto → Prop) (h : m_RowText_go_past ds s Q) : t_RowText_go_past noX { nx := fun e => Q (.d .non) e.st, rt := fun c e => Q c e.st } ⟨startC N_RowText_go_past ds, s⟩ := by
  unfold m_RowText_go_past at h
  split at h
  · rename_i k sg
    obtain ⟨tx, r, a, h0, ha, hs, q⟩ := h
    unfold t_RowText_go_past
    simpa?! only []
    refine ⟨h0.noF rfl, h0.noF rfl, sign_i h0 ha ?_⟩
    simpa?! only [e_need]
    refine ⟨decide_eq_true hs, opt_of (a := .int a) (h0.get rfl) ?_⟩
    simpa?! only []
    refine put_at h0 ?_
    rw [show ((a : Int) + 1) = ((a + 1 : Nat) : Int) by omega]
    exact q
  · exact h.elim
theorem set_self {st : Sto} {k : Nat} {x : SO} (h : st[k]? = some x) : st.set k x = st := by
  refine List.ext_getElem? fun i => ?_
  rw [List.getElem?_set]
  split
  · rename_i e
    subst e
    split
    · exact h.symm
    · rename_i hl
      exact absurd (List.getElem?_eq_some_iff.mp h).1 hl
  · rfl
theorem SMCP_iff {c : Nat} : c ∈ SMCP ↔ IsL c := by
  constructor
  · exact SMCP_L
  · intro h
    have key : ∀ n : Nat, n < 123 → IsL n → n ∈ SMCP := by unfold IsL; decide +kernel
    exact key c (by unfold IsL at h; omega) h
theorem sign_at {tx w post : List Nat} {a : Nat} (h : tx.drop a = w ++ post) (n : Nat) (hn : n ≤ w.length) : tx.drop (a + n) = w.drop n ++ post := by
  rw [← List.drop_drop, h, List.drop_append_of_le_length hn]
/-- no letter comes next -/
def NoL (post : List Nat) : Prop := ∀ c, post.head? = some c → ¬ IsL c
def m_RowText_letters : PM := fun ds st Q => match ds with
  | [.ref k] => ∃ (tx : List Nat) (r : Int) (a : Nat) (w post : List Nat), RtAt st k tx r a ∧ tx.length ≤ 8000000 ∧ tx.drop a = w ++ post ∧ IsW w ∧ NoL post ∧ a + w.length ≤ tx.length ∧ Q (.d (.str w)) (st.set k (.ins 20 (rtF tx r ((a + w.length : Nat) : Int))))
  | _ => False
theorem letters_i {k a : Nat} {tx w post : List Nat} {r : Int} {st : Sto} {Q : C → Sto → Prop} (h : RtAt st k tx r a) (hl : tx.length ≤ 8000000) (e : tx.drop a = w ++ post) (hw : IsW w) (hp : NoL post) (ha : a + w.length ≤ tx.length) (q : Q (.d (.str w)) (st.set k (.ins 20 (rtF tx r ((a + w.length : Nat) : Int))))) : m_RowText_letters [.ref k] st Q := ⟨tx, r, a, w, post, h, hl, e, hw, hp, ha, q⟩
def t_RowText_letters : PTS := sSeq (sAsg 1 (tFldP 20 "at" (tName 0))) (sSeq (sWhile (tAnd (tB (t2 (tMethP 20 "sign" m_RowText_sign (tName 0) tNil) (tD (.str [])) pNe)) (tB (t2 (tMethP 20 "sign" m_RowText_sign (tName 0) tNil) (tD (.str SMCP)) (pIn false)))) (sFldZ 20 "at" (tName 0) (t2 (tFldP 20 "at" (tName 0)) (tD (.int 1)) pAdd))) (sRet (tSl (tFldP 20 "text" (tName 0)) (oSome (tName 1)) (oSome (tFldP 20 "at" (tName 0))))))
abbrev N_RowText_letters : List Str := ["self", "begun"]
theorem len_RowText_letters (ds : List D) (s : Sto) (Q : C → Sto → Prop) (h : m_RowText_letters ds s Q) : ds.length = 1 := by
  unfold m_RowText_letters at h
  split at h
  · rfl
  · exact h.elim
theorem p_RowText_letters (ds : List D) (s : Sto) (Q : C → Sto → Prop) (h : m_RowText_letters ds s Q) : t_RowText_letters noX { nx := fun e => Q (.d .non) e.st, rt := fun c e => Q c e.st } ⟨startC N_RowText_letters ds, s⟩ := by
  unfold m_RowText_letters at h
  split at h
  · rename_i k
    obtain ⟨tx, r, a, w, post, h0, hl, e, hw, hp, ha, q⟩ := h
    unfold t_RowText_letters
    simpa?! only []
    refine opt_of (a := .int a) (h0.get rfl) ?_
    simpa?! only []
    refine wh_on (fun n : Nat => ⟨[.d (.ref k), .d (.int a)], s.set k (.ins 20 (rtF tx r ((a + n : Nat) : Int)))⟩) (fun n => n ≤ w.length) (fun n => w.length - n) 0 ?_ (Nat.zero_le _) ?_
    · have := set_self h0
      rw [Nat.add_zero, this]
    intro n hn K kk
    have hn' : RtAt (s.set k (.ins 20 (rtF tx r ((a + n : Nat) : Int)))) k tx r ((a + n : Nat) : Int) := h0.set
    have es := sign_at e n hn
    have fin : n = w.length → (sRet (tSl (tFldP 20 "text" (tName 0)) (oSome (tName 1)) (oSome (tFldP 20 "at" (tName 0))))) noX { nx := fun e => Q (C.d D.non) e.st, rt := fun c e => Q c e.st } ⟨[.d (.ref k), .d (.int a)], s.set k (.ins 20 (rtF tx r ((a + n : Nat) : Int)))⟩ := fun z => by
      simpa?! only []
      refine opt_of (a := .str tx) (hn'.get rfl) ?_
      simpa?! only []
      refine opt_of (a := .int ((a + n : Nat) : Int)) (hn'.get rfl) ?_
      simpa?! only [cut_mid]
      have ec : (tx.take (a + n)).drop a = w := by rw [List.drop_take, Nat.add_sub_cancel_left, e, z, List.take_left]
      rw [ec, z]
      exact q
    simpa?! only []
    refine ⟨hn'.noF rfl, sign_i hn' (by omega) ?_⟩
    simpa?! only []
    by_cases z : n = w.length
    · have F := fin z
      rw [z, List.drop_length, List.nil_append] at es
      cases post with
      | nil =>
        rw [z, es]
        refine br_neg rfl ?_
        simpa?! only []
        rw [z] at F
        simp -dsimp only [↓opt_some, ↓br_true, ↓br_false, ↓nameC_d, ↓nameC_own, ↓nameC_dK, ↓nameC_dT, ↓x_name, ↓fzC_d, ↓fzC_own, ↓fzC_dK, ↓fzC_dT, ↓x_fzn, ↓x_fzK, ↓x_fzT, ↓x_fzd, ↓x_fzo, ↓x_rvn, ↓x_rvd, ↓x_rvo, ↓retC_d, ↓retC_own, ↓x_retn, ↓x_retd, ↓x_reto, ↓x_hd, ↓x_ho, ↓x_hn, ↓x_ad, ↓x_ao, ↓x_an, ↓x_set, ↓x_seq, ↓x_next, ↓x_break, ↓x_cont, ↓x_drop, ↓x_ret, ↓x_retN, ↓x_if, ↓x_asg, ↓x_asgG, ↓x_while, ↓x_for, ↓x_2, ↓x_k2ad, ↓x_k2ao, ↓x_k2an, ↓x_k2b, ↓x_k2c, ↓x_1, ↓x_k1c, ↓x_D, ↓bC_b, ↓x_B, ↓x_kBc, ↓x_and, ↓x_kAn, ↓x_or, ↓x_kOr, ↓x_not, ↓x_kNo, ↓x_andV, ↓x_kAV, ↓x_orV, ↓x_kOV, ↓x_notV, ↓x_kNV, ↓x_tif, ↓x_nil, ↓x_kC2, ↓x_cons, ↓x_kC1d, ↓x_kC1o, ↓x_kC1k, ↓x_kC1t, ↓x_kC1n, ↓x_kC3d, ↓x_kC3o, ↓x_kC3k, ↓x_kC3t, ↓x_tup, ↓x_kTu, ↓x_lst, ↓x_kLs, ↓x_rnil, ↓x_kR2, ↓x_rcons, ↓x_kR1d, ↓x_kR1o, ↓x_kR1n, ↓x_callP, ↓x_kCP, ↓x_rvLc, ↓x_rvLn, ↓x_meth, ↓x_kM0d, ↓x_kM0o, ↓x_kM0n, ↓x_kM1, ↓x_kM2, ↓x_kM3, ↓x_meth0, ↓x_mut, ↓x_kU1n, ↓x_kU1d, ↓x_kU2, ↓x_kU3, ↓x_mg, ↓x_ms, ↓x_sl, ↓x_kS0d, ↓x_kS0o, ↓x_kS0n, ↓x_kS1, ↓x_kS2, ↓x_kS3, ↓x_on, ↓iC_i, ↓x_os, ↓x_kOs, ↓x_lc, ↓x_any, ↓x_pure, ↓sC_s, ↓x_rev, ↓x_call, ↓x_kCa, ↓x_gn, ↓x_gnil, ↓x_gcons, ↓x_isi, ↓a_ii, ↓a_ss, ↓a_ll, ↓a_tt, ↓a_I, ↓a_neg, ↓a_mul, ↓a_mulL, ↓a_mulS, ↓a_eq, ↓a_ne, ↓a_lt, ↓a_le, ↓a_gt, ↓a_ge, ↓a_ltS, ↓a_leS, ↓a_inS, ↓a_ninS, ↓a_inL, ↓a_ninL, ↓a_inT, ↓a_ninT, ↓a_ixL, ↓a_ixT, ↓a_ixS, ↓a_ixR, ↓a_ixB, ↓a_slL, ↓a_slT, ↓a_slS, ↓a_lenS, ↓a_lenL, ↓a_lenT, ↓a_lenR, ↓a_join, ↓a_ixof, ↓a_ixofL, ↓a_rng1, ↓a_rng2, ↓a_min2, ↓a_max2, ↓a_lstS, ↓a_lstL, ↓a_lstT, ↓a_int, ↓a_intB, ↓a_isN, ↓x_popAt, ↓x_all, ↓x_anyB, ↓a_isB, ↓a_pop, ↓x_dict0, ↓x_aK, ↓x_kg, ↓x_kgRn, ↓x_kgRf, ↓x_zips, ↓x_ks, ↓x_dg, ↓x_di, ↓x_dpt, ↓x_enum, ↓a_backL, ↓a_backS, ↓a_backT, ↓x_never, ↓a_tupL, ↓a_tupT, ↓x_sort, ↓x_sortS, ↓x_sortP, ↓a_slR, ↓x_zip, ↓x_sum, ↓a_count, ↓augC_i, ↓x_aug, ↓x_par, ↓x_raise, ↓x_callX, ↓x_try, ↓x_subA, ↓x_setN, ↓a_two, ↓x_swIx, ↓x_mkX, ↓x_mk0, ↓x_raise0, ↓a_exB, ↓a_tbl, ↓a_cbl, ↓x_isX, ↓x_xattr, ↓x_dictT0, ↓x_aT, ↓retC_dT, ↓retC_dK, ↓x_retT, ↓x_retK, ↓x_tgg, ↓x_tgRn, ↓x_tgRf, ↓x_tss, ↓x_dgT, ↓x_dptT, ↓x_callT, ↓a_lenTT, ↓a_listT, ↓a_dictT, ↓a_dictK, ↓x_chn, ↓a_mmT, ↓x_sortN, ↓a_lenSS, ↓a_ltT, ↓x_chn3, ↓a_dictN, ↓a_gN, ↓x_gls, ↓x_revT, ↓x_chS, ↓x_ltN, ↓x_try0, ↓x_fld, ↓x_kF, ↓x_kSF, ↓x_sfldZ, ↓x_sfldP, ↓x_kpd, ↓x_kpo, ↓x_kpK, ↓x_kpT, ↓x_kpC, ↓x_kpn, ↓x_2O, ↓x_k2adO, ↓x_k2aoO, ↓x_k2anO, ↓x_k2bO, ↓x_k2cO, ↓x_im, ↓x_kIM, ↓x_make, ↓x_kMk, ↓x_gtN, ↓x_methT, ↓x_kMTd, ↓x_mT1, ↓x_prK, ↓x_ixT, ↓x_prI, ↓x_splitA, ↓x_strI, ↓x_intS, ↓x_fs3, ↓x_f3I, ↓x_zipS, ↓x_parO, ↓x_asgZ, ↓x_asgK, ↓x_gd, ↓x_kGD, ↓x_case, ↓x_imX, ↓x_kIMX, ↓x_lcX, ↓x_ksr, ↓x_msr, ↓x_disp2, ↓x_kD2, ↓x_dgk2, ↓x_kG2, ↓x_clear, ↓x_kin, ↓x_kKI, ↓x_khas, ↓x_kKH, ↓x_igt, ↓x_izg, ↓x_kIG, ↓x_split1, ↓x_strAi, ↓x_strAs, rvC_d, rvC_own, consO_s, isTy_s, isTy_l, mgC_own, walk_l, walk_t, walk_s, toR_d, toR_o, items_l, items_t, ok_s, ok_i, ok_b, ok_n, ok_l, ok_t, okL_n, okL_c, e_ss, e_ii, e_bb, e_ll, e_tt, eL_nn, eL_cc, eL_nc, eL_cn, ty_s, ty_i, ty_l, ty_b, kgC_dK, key_i, key_s, kI_eq, kS_eq, oneR_1, walkE_l, walkE_t, walkE_s, ty_t, twoR_2, side_l, side_t, twoD_2, ow_nil, ow_un, ow_d, toR_T, toR_K, tgC_dT, tupK_t, consK_s, keyL_n, keyL_c, fold1, intL_n, consI_s, intL_c, consS_s, strL_n, strL_c, tC_s, m_app, m_ext, m_rev, sline, startC, restE, restC, wipeE, wipeC, plainC, List.getElem?_cons_zero, List.getElem?_cons_succ, List.getD_cons_zero, List.getD_cons_succ, List.set_cons_zero, List.set_cons_succ, List.length_cons, List.length_nil, List.map_cons, List.map_nil, List.replicate_succ, List.replicate_zero, List.cons_append, List.nil_append, Nat.reduceAdd, Nat.reduceMul, Int.reduceAdd, Int.reduceSub, Int.reduceMul, Nat.reduceSub, Nat.reduceLT, Nat.reduceLeDiff, Nat.lt_add_one, Int.reduceNeg, Int.reduceLT, Int.reduceLE, Int.reduceToNat, Int.reducePow, Nat.reducePow, List.flatten_cons, List.flatten_nil, List.append_nil, true_and, and_true, true_or, or_true, eq_self, and_self, decide_true, decide_false, Bool.not_true, Bool.not_false, Bool.not_not, Option.isSome_some, Bool.and_true, Bool.true_and, Bool.and_self, reduceIte, ↓reduceIte, Bool.false_eq_true, ite_self, reduceCtorEq, ne_eq, not_false_eq_true, forall_const, ↓x_gtup, ↓a_repr, ↓x_min1, ↓a_min2S, ↓x_yes, ↓x_ite, x_gnil, walk_l, walk_t, walk_s] at F
        exact F
      | cons c post =>
        have nc : c ∉ SMCP := fun hc => hp c rfl (SMCP_iff.mp hc)
        rw [z, es]
        refine br_pos rfl ?_
        simpa?! only []
        rw [z] at hn'
        refine ⟨hn'.noF rfl, sign_i hn' (by omega) ?_⟩
        rw [es]
        simpa?! only []
        refine br_neg (decide_eq_false nc) ?_
        simpa?! only []
        rw [z] at F
        simp -dsimp only [↓opt_some, ↓br_true, ↓br_false, ↓nameC_d, ↓nameC_own, ↓nameC_dK, ↓nameC_dT, ↓x_name, ↓fzC_d, ↓fzC_own, ↓fzC_dK, ↓fzC_dT, ↓x_fzn, ↓x_fzK, ↓x_fzT, ↓x_fzd, ↓x_fzo, ↓x_rvn, ↓x_rvd, ↓x_rvo, ↓retC_d, ↓retC_own, ↓x_retn, ↓x_retd, ↓x_reto, ↓x_hd, ↓x_ho, ↓x_hn, ↓x_ad, ↓x_ao, ↓x_an, ↓x_set, ↓x_seq, ↓x_next, ↓x_break, ↓x_cont, ↓x_drop, ↓x_ret, ↓x_retN, ↓x_if, ↓x_asg, ↓x_asgG, ↓x_while, ↓x_for, ↓x_2, ↓x_k2ad, ↓x_k2ao, ↓x_k2an, ↓x_k2b, ↓x_k2c, ↓x_1, ↓x_k1c, ↓x_D, ↓bC_b, ↓x_B, ↓x_kBc, ↓x_and, ↓x_kAn, ↓x_or, ↓x_kOr, ↓x_not, ↓x_kNo, ↓x_andV, ↓x_kAV, ↓x_orV, ↓x_kOV, ↓x_notV, ↓x_kNV, ↓x_tif, ↓x_nil, ↓x_kC2, ↓x_cons, ↓x_kC1d, ↓x_kC1o, ↓x_kC1k, ↓x_kC1t, ↓x_kC1n, ↓x_kC3d, ↓x_kC3o, ↓x_kC3k, ↓x_kC3t, ↓x_tup, ↓x_kTu, ↓x_lst, ↓x_kLs, ↓x_rnil, ↓x_kR2, ↓x_rcons, ↓x_kR1d, ↓x_kR1o, ↓x_kR1n, ↓x_callP, ↓x_kCP, ↓x_rvLc, ↓x_rvLn, ↓x_meth, ↓x_kM0d, ↓x_kM0o, ↓x_kM0n, ↓x_kM1, ↓x_kM2, ↓x_kM3, ↓x_meth0, ↓x_mut, ↓x_kU1n, ↓x_kU1d, ↓x_kU2, ↓x_kU3, ↓x_mg, ↓x_ms, ↓x_sl, ↓x_kS0d, ↓x_kS0o, ↓x_kS0n, ↓x_kS1, ↓x_kS2, ↓x_kS3, ↓x_on, ↓iC_i, ↓x_os, ↓x_kOs, ↓x_lc, ↓x_any, ↓x_pure, ↓sC_s, ↓x_rev, ↓x_call, ↓x_kCa, ↓x_gn, ↓x_gnil, ↓x_gcons, ↓x_isi, ↓a_ii, ↓a_ss, ↓a_ll, ↓a_tt, ↓a_I, ↓a_neg, ↓a_mul, ↓a_mulL, ↓a_mulS, ↓a_eq, ↓a_ne, ↓a_lt, ↓a_le, ↓a_gt, ↓a_ge, ↓a_ltS, ↓a_leS, ↓a_inS, ↓a_ninS, ↓a_inL, ↓a_ninL, ↓a_inT, ↓a_ninT, ↓a_ixL, ↓a_ixT, ↓a_ixS, ↓a_ixR, ↓a_ixB, ↓a_slL, ↓a_slT, ↓a_slS, ↓a_lenS, ↓a_lenL, ↓a_lenT, ↓a_lenR, ↓a_join, ↓a_ixof, ↓a_ixofL, ↓a_rng1, ↓a_rng2, ↓a_min2, ↓a_max2, ↓a_lstS, ↓a_lstL, ↓a_lstT, ↓a_int, ↓a_intB, ↓a_isN, ↓x_popAt, ↓x_all, ↓x_anyB, ↓a_isB, ↓a_pop, ↓x_dict0, ↓x_aK, ↓x_kg, ↓x_kgRn, ↓x_kgRf, ↓x_zips, ↓x_ks, ↓x_dg, ↓x_di, ↓x_dpt, ↓x_enum, ↓a_backL, ↓a_backS, ↓a_backT, ↓x_never, ↓a_tupL, ↓a_tupT, ↓x_sort, ↓x_sortS, ↓x_sortP, ↓a_slR, ↓x_zip, ↓x_sum, ↓a_count, ↓augC_i, ↓x_aug, ↓x_par, ↓x_raise, ↓x_callX, ↓x_try, ↓x_subA, ↓x_setN, ↓a_two, ↓x_swIx, ↓x_mkX, ↓x_mk0, ↓x_raise0, ↓a_exB, ↓a_tbl, ↓a_cbl, ↓x_isX, ↓x_xattr, ↓x_dictT0, ↓x_aT, ↓retC_dT, ↓retC_dK, ↓x_retT, ↓x_retK, ↓x_tgg, ↓x_tgRn, ↓x_tgRf, ↓x_tss, ↓x_dgT, ↓x_dptT, ↓x_callT, ↓a_lenTT, ↓a_listT, ↓a_dictT, ↓a_dictK, ↓x_chn, ↓a_mmT, ↓x_sortN, ↓a_lenSS, ↓a_ltT, ↓x_chn3, ↓a_dictN, ↓a_gN, ↓x_gls, ↓x_revT, ↓x_chS, ↓x_ltN, ↓x_try0, ↓x_fld, ↓x_kF, ↓x_kSF, ↓x_sfldZ, ↓x_sfldP, ↓x_kpd, ↓x_kpo, ↓x_kpK, ↓x_kpT, ↓x_kpC, ↓x_kpn, ↓x_2O, ↓x_k2adO, ↓x_k2aoO, ↓x_k2anO, ↓x_k2bO, ↓x_k2cO, ↓x_im, ↓x_kIM, ↓x_make, ↓x_kMk, ↓x_gtN, ↓x_methT, ↓x_kMTd, ↓x_mT1, ↓x_prK, ↓x_ixT, ↓x_prI, ↓x_splitA, ↓x_strI, ↓x_intS, ↓x_fs3, ↓x_f3I, ↓x_zipS, ↓x_parO, ↓x_asgZ, ↓x_asgK, ↓x_gd, ↓x_kGD, ↓x_case, ↓x_imX, ↓x_kIMX, ↓x_lcX, ↓x_ksr, ↓x_msr, ↓x_disp2, ↓x_kD2, ↓x_dgk2, ↓x_kG2, ↓x_clear, ↓x_kin, ↓x_kKI, ↓x_khas, ↓x_kKH, ↓x_igt, ↓x_izg, ↓x_kIG, ↓x_split1, ↓x_strAi, ↓x_strAs, rvC_d, rvC_own, consO_s, isTy_s, isTy_l, mgC_own, walk_l, walk_t, walk_s, toR_d, toR_o, items_l, items_t, ok_s, ok_i, ok_b, ok_n, ok_l, ok_t, okL_n, okL_c, e_ss, e_ii, e_bb, e_ll, e_tt, eL_nn, eL_cc, eL_nc, eL_cn, ty_s, ty_i, ty_l, ty_b, kgC_dK, key_i, key_s, kI_eq, kS_eq, oneR_1, walkE_l, walkE_t, walkE_s, ty_t, twoR_2, side_l, side_t, twoD_2, ow_nil, ow_un, ow_d, toR_T, toR_K, tgC_dT, tupK_t, consK_s, keyL_n, keyL_c, fold1, intL_n, consI_s, intL_c, consS_s, strL_n, strL_c, tC_s, m_app, m_ext, m_rev, sline, startC, restE, restC, wipeE, wipeC, plainC, List.getElem?_cons_zero, List.getElem?_cons_succ, List.getD_cons_zero, List.getD_cons_succ, List.set_cons_zero, List.set_cons_succ, List.length_cons, List.length_nil, List.map_cons, List.map_nil, List.replicate_succ, List.replicate_zero, List.cons_append, List.nil_append, Nat.reduceAdd, Nat.reduceMul, Int.reduceAdd, Int.reduceSub, Int.reduceMul, Nat.reduceSub, Nat.reduceLT, Nat.reduceLeDiff, Nat.lt_add_one, Int.reduceNeg, Int.reduceLT, Int.reduceLE, Int.reduceToNat, Int.reducePow, Nat.reducePow, List.flatten_cons, List.flatten_nil, List.append_nil, true_and, and_true, true_or, or_true, eq_self, and_self, decide_true, decide_false, Bool.not_true, Bool.not_false, Bool.not_not, Option.isSome_some, Bool.and_true, Bool.true_and, Bool.and_self, reduceIte, ↓reduceIte, Bool.false_eq_true, ite_self, reduceCtorEq, ne_eq, not_false_eq_true, forall_const, ↓x_gtup, ↓a_repr, ↓x_min1, ↓a_min2S, ↓x_yes, ↓x_ite, x_gnil, walk_l, walk_t, walk_s] at F
        exact F
    · have hlt : n < w.length := by omega
      have hL := hw _ (List.getElem_mem hlt)
      have e1 : (tx.drop (a + n)).take 1 = [w[n]] := by rw [es, List.drop_eq_getElem_cons hlt]; rfl
      rw [e1]
      refine br_pos rfl ?_
      simpa?! only []
      refine ⟨hn'.noF rfl, sign_i hn' (by omega) ?_⟩
      rw [e1]
      simpa?! only []
      refine br_pos (decide_eq_true (SMCP_iff.mpr hL)) ?_
      simpa?! only []
      refine opt_of (a := .int ((a + n : Nat) : Int)) (hn'.get rfl) ?_
      simpa?! only []
      refine put_at hn' ?_
      rw [rt_set, show (((a + n : Nat) : Int) + 1) = ((a + (n + 1) : Nat) : Int) by omega]
      exact kk (n + 1) (by omega) (by omega)
  · exact h.elim
set_option maxRecDepth 100000
set_option maxHeartbeats 1000000
def POk (j : Nat) : D ⊕ Tm → Prop
  | .inl d => (∃ x ∈ SM, d = .str [x]) ∨ ∃ k : Nat, k ≤ 6 ∧ d = .int k
  | .inr u => TOk u ∧ u.dp < j
def m_RowText_term (j : Nat) : PM := fun ds st Q => match ds with
  | [.ref k] => ∃ (tx : List Nat) (r : Int) (a : Nat) (t : Tm) (post : List Nat), RtAt st k tx r a ∧ tx.length ≤ 8000000 ∧ tx.drop a = txt t ++ post ∧ TOk t ∧ t.dp < j ∧ NoL post ∧ Q (.d (tmD t)) (st.set k (.ins 20 (rtF tx r ((a + (txt t).length : Nat) : Int))))
  | _ => False
def m_RowText_part (j : Nat) : PM := fun ds st Q => match ds with
  | [.ref k, .str sort] => ∃ (tx : List Nat) (r : Int) (a : Nat) (p : D ⊕ Tm) (post : List Nat), RtAt st k tx r a ∧ tx.length ≤ 8000000 ∧ sort = srtx p ∧ tx.drop a = ptx p ++ post ∧ POk j p ∧ NoL post ∧ Q (.d (prx p)) (st.set k (.ins 20 (rtF tx r ((a + (ptx p).length : Nat) : Int))))
  | _ => False
theorem term_r {j k a : Nat} {tx post : List Nat} {r : Int} {t : Tm} {st : Sto} {Q : C → Sto → Prop} (h : RtAt st k tx r a) (hl : tx.length ≤ 8000000) (e : tx.drop a = txt t ++ post) (ht : TOk t) (hd : t.dp < j) (hp : NoL post) (q : Q (.d (tmD t)) (st.set k (.ins 20 (rtF tx r ((a + (txt t).length : Nat) : Int))))) : m_RowText_term j [.ref k] st Q := ⟨tx, r, a, t, post, h, hl, e, ht, hd, hp, q⟩
theorem part_r {j k a : Nat} {tx post : List Nat} {r : Int} {p : D ⊕ Tm} {st : Sto} {Q : C → Sto → Prop} (h : RtAt st k tx r a) (hl : tx.length ≤ 8000000) (e : tx.drop a = ptx p ++ post) (hd : POk j p) (hp : NoL post) (q : Q (.d (prx p)) (st.set k (.ins 20 (rtF tx r ((a + (ptx p).length : Nat) : Int))))) : m_RowText_part j [.ref k, .str (srtx p)] st Q := ⟨tx, r, a, p, post, h, hl, rfl, e, hd, hp, q⟩
theorem no_RowText_term (ds : List D) (s : Sto) (Q : C → Sto → Prop) : ¬ m_RowText_term 0 ds s Q := fun h => by
  unfold m_RowText_term at h
  split at h
  · obtain ⟨_, _, _, _, _, _, _, _, _, h, _⟩ := h; omega
  · exact h
theorem len_RowText_term (j : Nat) (ds : List D) (s : Sto) (Q : C → Sto → Prop) (h : m_RowText_term j ds s Q) : ds.length = 1 := by
  unfold m_RowText_term at h
  split at h
  · rfl
  · exact h.elim
theorem len_RowText_part (j : Nat) (ds : List D) (s : Sto) (Q : C → Sto → Prop) (h : m_RowText_part j ds s Q) : ds.length = 2 := by
  unfold m_RowText_part at h
  split at h
  · rfl
  · exact h.elim
theorem txt_ne (t : Tm) (h : TOk t) : txt t ≠ [] := by
  cases t with
  | name n => exact h.1
  | _ => simp [txt]
theorem drop_lt {tx u post : List Nat} {a : Nat} (e : tx.drop a = u ++ post) (hu : u ≠ []) : a + u.length + post.length = tx.length := by
  have := congrArg List.length e
  rw [List.length_drop, List.length_append] at this
  have := List.length_pos_iff.mpr hu
  omega
theorem kget_dck2 {k1 k2 : Key} {d1 d2 : D} {e : En} (h : k1 ≠ k2) : kgetR (.d (dck2 k1 k2 d1 d2)) e = some [(k1, d1), (k2, d2)] := by
  have z : setK (setK [] k1 d1) k2 d2 = [(k1, d1), (k2, d2)] := by simp [setK, h]
  unfold dck2
  rw [z]
  rfl
theorem get_two1 {k1 k2 : Key} {d1 d2 : D} : getK [(k1, d1), (k2, d2)] k1 = some d1 := by simp [getK]
theorem get_two2 {k1 k2 : Key} {d1 d2 : D} (h : k1 ≠ k2) : getK [(k1, d1), (k2, d2)] k2 = some d2 := by simp [getK, h]
theorem dig_mem {i : Nat} (hi : i ≤ 6) : 48 + i ∈ [48, 49, 50, 51, 52, 53, 54] := by
  have key : ∀ i : Nat, i ≤ 6 → 48 + i ∈ [48, 49, 50, 51, 52, 53, 54] := by decide +kernel
  exact key i hi
theorem dig_val {i : Nat} (hi : i ≤ 6) : ([48 + i].all fun c => decide (48 ≤ c) && decide (c ≤ 57)) = true ∧ NumText.digitsVal [48 + i] = i := by
  have key : ∀ i : Nat, i ≤ 6 → ([48 + i].all fun c => decide (48 ≤ c) && decide (c ≤ 57)) = true ∧ NumText.digitsVal [48 + i] = i := by decide +kernel
  exact key i hi
theorem tl_ne : kS [116, 105, 109, 101, 115] ≠ kS [108, 101, 116, 116, 101, 114] := by decide +kernel
def t_RowText_part (j : Nat) : PTS := sSeq (sIf (tB (t2 (tName 1) (tD (.str [116, 101, 114, 109])) pEq)) (sRet (tMethP 20 "term" (m_RowText_term j) (tName 0) tNil)) (sNext)) (sSeq (sAsg 2 (tMethP 20 "sign" m_RowText_sign (tName 0) tNil)) (sSeq (sDrop (tMethP 20 "need" m_RowText_need (tName 0) (tCons (tAndV (t2 (tName 2) (tD (.str [])) pNe) (t2 (tName 2) (tDG (tDisp2 (tD (.str [116, 105, 109, 101, 115])) (tD (.str [48, 49, 50, 51, 52, 53, 54])) (tD (.str [108, 101, 116, 116, 101, 114])) (tD (.str SM))) (tName 1)) (pIn false))) (tNil)))) (sSeq (sFldZ 20 "at" (tName 0) (t2 (tFldP 20 "at" (tName 0)) (tD (.int 1)) pAdd)) (sSeq (sIf (tB (t2 (tName 1) (tD (.str [116, 105, 109, 101, 115])) pEq)) (sRet (tCallP pIntS (rCons (tName 2) (rNil)))) (sNext)) (sRet (tName 2))))))
abbrev N_RowText_part : List Str := ["self", "sort", "found"]
theorem p_RowText_part (j : Nat) (ds : List D) (s : Sto) (Q : C → Sto → Prop) (h : m_RowText_part j ds s Q) : t_RowText_part j noX { nx := fun e => Q (.d .non) e.st, rt := fun c e => Q c e.st } ⟨startC N_RowText_part ds, s⟩ := by
  unfold m_RowText_part at h
  split at h
  · rename_i k sort
    obtain ⟨tx, r, a, p, post, h0, hl, rfl, e, hp, hn, q⟩ := h
    unfold t_RowText_part
    cases p with
    | inr u =>
      rw [show srtx (.inr u) = [116, 101, 114, 109] from rfl]
      simpa?! only []
      refine ⟨h0.noF rfl, term_r h0 hl e hp.1 hp.2 hn ?_⟩
      simpa?! only []
      exact q
    | inl d =>
      rcases hp with ⟨x, hx, rfl⟩ | ⟨i, hi, rfl⟩
      · have e : tx.drop a = [x] ++ post := e
        have len := drop_lt e (by simp)
        rw [show srtx (.inl (.str [x])) = [108, 101, 116, 116, 101, 114] from rfl]
        simpa?! only []
        refine br_neg rfl ?_
        simpa?! only []
        refine ⟨h0.noF rfl, sign_i h0 (by rw [List.length_singleton] at len; omega) ?_⟩
        rw [show (tx.drop a).take 1 = [x] by rw [e]; rfl]
        simpa?! only [e_need]
        refine ⟨h0.noF rfl, opt_of (kget_dck2 tl_ne) ?_⟩
        refine opt_of (a := .str [108, 101, 116, 116, 101, 114]) rfl ?_
        refine opt_of (a := kS [108, 101, 116, 116, 101, 114]) rfl ?_
        refine opt_of (a := .str SM) (get_two2 tl_ne) ?_
        simpa?! only [e_need]
        refine ⟨decide_eq_true hx, opt_of (a := .int a) (h0.get rfl) ?_⟩
        simpa?! only []
        refine put_at h0 ?_
        rw [show ((a : Int) + 1) = ((a + 1 : Nat) : Int) by omega]
        simpa?! only []
        refine br_neg rfl ?_
        simpa?! only []
        exact q
      · have e : tx.drop a = TL.numL i ++ post := e
        rw [num_one hi] at e
        have len := drop_lt e (by simp)
        rw [show srtx (.inl (.int (i : Int))) = [116, 105, 109, 101, 115] from rfl]
        simpa?! only []
        refine br_neg rfl ?_
        simpa?! only []
        refine ⟨h0.noF rfl, sign_i h0 (by rw [List.length_singleton] at len; omega) ?_⟩
        rw [show (tx.drop a).take 1 = [48 + i] by rw [e]; rfl]
        simpa?! only [e_need]
        refine ⟨h0.noF rfl, opt_of (kget_dck2 tl_ne) ?_⟩
        refine opt_of (a := .str [116, 105, 109, 101, 115]) rfl ?_
        refine opt_of (a := kS [116, 105, 109, 101, 115]) rfl ?_
        refine opt_of (a := .str [48, 49, 50, 51, 52, 53, 54]) get_two1 ?_
        simpa?! only [e_need]
        refine ⟨decide_eq_true (dig_mem hi), opt_of (a := .int a) (h0.get rfl) ?_⟩
        simpa?! only []
        refine put_at h0 ?_
        rw [show ((a : Int) + 1) = ((a + 1 : Nat) : Int) by omega]
        simpa?! only []
        have ed := dig_val hi
        rw [ed.2]
        have q : Q (.d (.int i)) (s.set k (.ins 20 (rtF tx r ((a + (TL.numL i).length : Nat) : Int)))) := q
        rw [num_one hi] at q
        exact ⟨ed.1, q⟩
  · exact h.elim
theorem NoL.cons {c : Nat} {l : List Nat} (h : ¬ IsL c) : NoL (c :: l) := fun d hd => by cases hd; exact h
theorem nl39 : ¬ IsL 39 := by unfold IsL; omega
theorem nl40 : ¬ IsL 40 := by unfold IsL; omega
theorem nl41 : ¬ IsL 41 := by unfold IsL; omega
theorem nl32 : ¬ IsL 32 := by unfold IsL; omega
theorem drop_more {tx u v : List Nat} {a : Nat} (e : tx.drop a = u ++ v) : tx.drop (a + u.length) = v := by
  rw [← List.drop_drop, e, List.drop_left]
def t_RowText_term (j : Nat) : PTS := sSeq (sIf (tB (t2 (tMethP 20 "sign" m_RowText_sign (tName 0) tNil) (tD (.str [39])) pEq)) (sSeq (sFldZ 20 "at" (tName 0) (t2 (tFldP 20 "at" (tName 0)) (tD (.int 1)) pAdd)) (sSeq (sAsg 1 (tMethP 20 "letters" m_RowText_letters (tName 0) tNil)) (sSeq (sDrop (tMethP 20 "go_past" m_RowText_go_past (tName 0) (tCons (tD (.str [39])) (tNil)))) (sRet (tTup (tCons (tD (.str [119, 97, 108, 107])) (tCons (tName 1) (tNil)))))))) (sNext)) (sSeq (sIf (tB (t2 (tMethP 20 "sign" m_RowText_sign (tName 0) tNil) (tD (.str [40])) pNe)) (sSeq (sAsg 1 (tMethP 20 "letters" m_RowText_letters (tName 0) tNil)) (sSeq (sDrop (tMethP 20 "need" m_RowText_need (tName 0) (tCons (tCall0 m_is_name (tCons (tName 1) (tNil))) (tNil)))) (sRet (tTup (tCons (tD (.str [110, 97, 109, 101])) (tCons (tName 1) (tNil))))))) (sNext)) (sSeq (sFldZ 20 "at" (tName 0) (t2 (tFldP 20 "at" (tName 0)) (tD (.int 1)) pAdd)) (sSeq (sAsg 1 (tMethP 20 "letters" m_RowText_letters (tName 0) tNil)) (sSeq (sDrop (tMethP 20 "need" m_RowText_need (tName 0) (tCons (tKHas [[116, 104, 101, 110], [98, 97, 99, 107], [97, 103, 97, 105, 110], [102, 111, 114]] (tName 1)) (tNil)))) (sSeq (sAsg 2 (tLst (tCons (tName 1) (tNil)))) (sSeq (sFor (iGT [([116, 104, 101, 110], [[116, 101, 114, 109], [116, 101, 114, 109]]), ([98, 97, 99, 107], [[116, 101, 114, 109]]), ([97, 103, 97, 105, 110], [[116, 105, 109, 101, 115], [116, 101, 114, 109]]), ([102, 111, 114], [[108, 101, 116, 116, 101, 114], [116, 101, 114, 109], [116, 101, 114, 109]])] (tName 1)) (gName 3) (sSeq (sDrop (tMethP 20 "go_past" m_RowText_go_past (tName 0) (tCons (tD (.str [32])) (tNil)))) (sDrop (tMut mAppend (tName 2) (tCons (tMethP 20 "part" (m_RowText_part j) (tName 0) (tCons (tName 3) (tNil))) (tNil)))))) (sSeq (sDrop (tMethP 20 "go_past" m_RowText_go_past (tName 0) (tCons (tD (.str [41])) (tNil)))) (sRet (tCallP pTuple (rCons (tName 2) (rNil)))))))))))
abbrev N_RowText_term : List Str := ["self", "word", "found", "sort"]
def rm_body (j : Nat) : PTS := sSeq (sDrop (tMethP 20 "go_past" m_RowText_go_past (tName 0) (tCons (tD (.str [32])) (tNil)))) (sDrop (tMut mAppend (tName 2) (tCons (tMethP 20 "part" (m_RowText_part j) (tName 0) (tCons (tName 3) (tNil))) (tNil))))
theorem prx_pok {j : Nat} {t : Tm} (hl : t.leaf = false) (ht : TOk t) (hd : t.dp < j + 1) {p : D ⊕ Tm} (hp : p ∈ t.prx) : POk j p := by
  cases p with
  | inl d => exact prx_inl hl ht hp
  | inr u => have := prx_sub hp; exact ⟨this.2 ht, by omega⟩
theorem nl_parts (l : List (D ⊕ Tm)) (post : List Nat) : NoL ((l.map fun p => 32 :: ptx p).flatten ++ ([41] ++ post)) := by
  cases l with
  | nil => exact NoL.cons nl41
  | cons a l => exact NoL.cons nl32
theorem rm_loop {j k b : Nat} {tx post : List Nat} {r : Int} {t : Tm} (hl : t.leaf = false) (ht : TOk t) (hd : t.dp < j + 1) (h8 : tx.length ≤ 8000000) {c3 : C} {s : Sto} {P : PEn} (h0 : RtAt s k tx r (b : Nat)) (e : tx.drop b = (t.prx.map fun p => 32 :: ptx p).flatten ++ ([41] ++ post))
    (q : ∀ c3, P.nx ⟨[.d (.ref k), .d (.str t.kwx), .own (.str t.kwx :: t.prx.map prx), c3], s.set k (.ins 20 (rtF tx r ((b + ((t.prx.map fun p => 32 :: ptx p).flatten).length : Nat) : Int)))⟩) :
    forH (t.prx.map fun p => D.str (srtx p)) ⟨[.d (.ref k), .d (.str t.kwx), .own [.str t.kwx], c3], s⟩ (HB.mk (gName 3, rm_body j, noX, P) ()) := by
  have sm := prx_3 t
  have lt : b + ((t.prx.map fun p => 32 :: ptx p).flatten).length + 1 ≤ tx.length := by
    have := congrArg List.length e
    rw [List.length_drop, List.length_append, List.length_append, List.length_singleton] at this
    omega
  refine forH_map (fun p => D.str (srtx p)) t.prx (fun pre _ e => ∃ c3, e = ⟨[.d (.ref k), .d (.str t.kwx), .own (.str t.kwx :: pre.map prx), c3], s.set k (.ins 20 (rtF tx r ((b + ((pre.map fun p => 32 :: ptx p).flatten).length : Nat) : Int)))⟩) ⟨c3, by
    have := set_self h0
    simp only [List.map_nil, List.flatten_nil, List.length_nil, Nat.add_zero]
    rw [this]⟩ (fun e h => by obtain ⟨c3, rfl⟩ := h; exact q c3) ?_
  rintro pre p suf e' hp ⟨c3, rfl⟩ N hN
  have hpm : p ∈ t.prx := by rw [← hp]; simp
  have pok := prx_pok hl ht hd hpm
  have l3 : pre.length ≤ 3 := by
    have := congrArg List.length hp
    simp at this
    omega
  rw [← hp, List.map_append, List.flatten_append, List.map_cons, List.flatten_cons] at e lt
  have N1 := hN ⟨[.d (.ref k), .d (.str t.kwx), .own (.str t.kwx :: pre.map prx ++ [prx p]), .d (.str (srtx p))], s.set k (.ins 20 (rtF tx r ((b + ((pre.map fun p => 32 :: ptx p).flatten).length + 1 + (ptx p).length : Nat) : Int)))⟩ ⟨_, by
    simp only [List.map_append, List.flatten_append, List.map_cons, List.map_nil, List.flatten_cons, List.flatten_nil, List.length_append, List.length_cons, List.length_nil, List.append_nil, List.cons_append]
    rw [show b + (((pre.map fun p => 32 :: ptx p).flatten).length + ((ptx p).length + 1)) = b + ((pre.map fun p => 32 :: ptx p).flatten).length + 1 + (ptx p).length by omega]⟩
  generalize hL : ((pre.map fun p => 32 :: ptx p).flatten).length = Ln at N1 ⊢
  have e1 : tx.drop (b + Ln) = [32] ++ (ptx p ++ ((suf.map fun p => 32 :: ptx p).flatten ++ ([41] ++ post))) := by
    rw [← hL]
    refine (drop_more (v := 32 :: ptx p ++ (suf.map fun p => 32 :: ptx p).flatten ++ ([41] ++ post)) (by rw [e]; simp)).trans (by simp)
  have e2 : tx.drop (b + Ln + 1) = ptx p ++ ((suf.map fun p => 32 :: ptx p).flatten ++ ([41] ++ post)) := drop_more e1
  have bl : b + Ln + 1 ≤ tx.length := by
    rw [List.length_append, hL] at lt
    omega
  have h1 : RtAt (s.set k (.ins 20 (rtF tx r ((b + Ln : Nat) : Int)))) k tx r ((b + Ln : Nat) : Int) := h0.set
  have h2 : RtAt (s.set k (.ins 20 (rtF tx r ((b + Ln + 1 : Nat) : Int)))) k tx r ((b + Ln + 1 : Nat) : Int) := h0.set
  have lA : (.str t.kwx :: pre.map prx).length ≤ 4 := by simp; omega
  generalize (D.str t.kwx :: pre.map prx) = A at N1 lA ⊢
  unfold rm_body
  simpa?! only []
  refine ⟨h1.noF rfl, past_i h1 (by omega) (by rw [e1]; rfl) ?_⟩
  rw [rt_set]
  refine ⟨h2.noF rfl, part_r h2 h8 e2 pok (nl_parts suf post) ?_⟩
  rw [rt_set]
  simpa?! only []
  exact ⟨by omega, N1⟩
theorem p_RowText_term (j : Nat) (ds : List D) (s : Sto) (Q : C → Sto → Prop) (h : m_RowText_term (j + 1) ds s Q) : t_RowText_term j noX { nx := fun e => Q (.d .non) e.st, rt := fun c e => Q c e.st } ⟨startC N_RowText_term ds, s⟩ := by
  unfold m_RowText_term at h
  split at h
  · rename_i k
    obtain ⟨tx, r, a, t, post, h0, hl, e, ht, hd, hn, q⟩ := h
    have len := drop_lt e (txt_ne t ht)
    unfold t_RowText_term
    simpa?! only []
    refine ⟨h0.noF rfl, sign_i h0 (by omega) ?_⟩
    cases t with
    | walk w =>
      have e : tx.drop a = [39] ++ (w ++ ([39] ++ post)) := by rw [e]; simp [txt]
      have lw : (txt (.walk w)).length = 1 + w.length + 1 := by simp [txt]; omega
      rw [show (tx.drop a).take 1 = [39] by rw [e]; rfl]
      simpa?! only []
      refine opt_of (a := .int a) (h0.get rfl) ?_
      simpa?! only []
      refine put_at h0 ?_
      rw [show ((a : Int) + 1) = ((a + 1 : Nat) : Int) by omega]
      have h1 : RtAt (s.set k (.ins 20 (rtF tx r ((a + 1 : Nat) : Int)))) k tx r ((a + 1 : Nat) : Int) := h0.set
      have e1 : tx.drop (a + 1) = w ++ ([39] ++ post) := drop_more e
      simpa?! only []
      refine ⟨h1.noF rfl, letters_i h1 hl e1 ht.1 (NoL.cons nl39) (by omega) ?_⟩
      have e2 : tx.drop (a + 1 + w.length) = [39] ++ post := drop_more e1
      simpa?! only []
      rw [rt_set]
      have h2 : RtAt (s.set k (.ins 20 (rtF tx r ((a + 1 + w.length : Nat) : Int)))) k tx r ((a + 1 + w.length : Nat) : Int) := h0.set
      refine ⟨h2.noF rfl, past_i h2 (by omega) (by rw [e2]; rfl) ?_⟩
      rw [rt_set]
      rw [lw, show a + (1 + w.length + 1) = a + 1 + w.length + 1 by omega] at q
      simpa?! only []
    | name n =>
      have hn1 : IsW n := fun c hc => SM_L (ht.2.2.1 c hc)
      have e : tx.drop a = n ++ post := e
      obtain ⟨c, n', rfl⟩ : ∃ c n', n = c :: n' := by
        cases n with
        | nil => exact absurd rfl ht.1
        | cons c n' => exact ⟨c, n', rfl⟩
      have hc := hn1 c (by simp)
      have c39 : c ≠ 39 := fun z => nl39 (z ▸ hc)
      have c40 : c ≠ 40 := fun z => nl40 (z ▸ hc)
      rw [show (tx.drop a).take 1 = [c] by rw [e]; rfl]
      simpa?! only []
      refine br_neg (decide_eq_false fun z => c39 (by cases z; rfl)) ?_
      simpa?! only []
      refine ⟨h0.noF rfl, sign_i h0 (by omega) ?_⟩
      rw [show (tx.drop a).take 1 = [c] by rw [e]; rfl]
      simpa?! only []
      refine br_pos (by simp [c40]) ?_
      simpa?! only []
      have lw : (txt (.name (c :: n'))).length = (c :: n').length := rfl
      refine ⟨h0.noF rfl, letters_i h0 hl e hn1 hn (by omega) ?_⟩
      simpa?! only [e_isn, e_need]
      have h2 : RtAt (s.set k (.ins 20 (rtF tx r ((a + (c :: n').length : Nat) : Int)))) k tx r ((a + (c :: n').length : Nat) : Int) := h0.set
      exact ⟨h2.noF rfl, ht, q⟩
    | thn u v =>
      have et := txt_prx (.thn u v) rfl
      have lq : (txt (.thn u v)).length = 1 + kThen.length + (((Tm.prx (.thn u v)).map fun p => 32 :: ptx p).flatten).length + 1 := by rw [et]; simp only [List.length_append, List.length_singleton, Tm.kwx]
      rw [et] at e len
      have F := fun (P : PEn) => rm_loop (P := P) (j := j) (k := k) (tx := tx) (post := post) (r := r) (t := .thn u v) rfl ht hd hl (c3 := .un) (s := s.set k (.ins 20 (rtF tx r ((a + 1 + kThen.length : Nat) : Int)))) (b := a + 1 + kThen.length)
      have e0 : tx.drop a = [40] ++ (kThen ++ ((Tm.prx (.thn u v)).map fun p => 32 :: ptx p).flatten ++ ([41] ++ post)) := by rw [e]; simp [Tm.kwx]
      have e1 : tx.drop (a + 1) = kThen ++ (((Tm.prx (.thn u v)).map fun p => 32 :: ptx p).flatten ++ ([41] ++ post)) := (drop_more e0).trans (by simp)
      have e2 : tx.drop (a + 1 + kThen.length) = ((Tm.prx (.thn u v)).map fun p => 32 :: ptx p).flatten ++ ([41] ++ post) := drop_more e1
      have e3 : tx.drop (a + 1 + kThen.length + (((Tm.prx (.thn u v)).map fun p => 32 :: ptx p).flatten).length) = [41] ++ post := drop_more e2
      simp only [List.length_append, List.length_singleton] at len
      have kl : Tm.kwx (.thn u v) = kThen := rfl
      rw [kl] at len
      generalize hLn : (((Tm.prx (.thn u v)).map fun p => 32 :: ptx p).flatten).length = Ln at *
      rw [show (tx.drop a).take 1 = [40] by rw [e0]; rfl]
      simpa?! only []
      refine br_neg rfl ?_
      simpa?! only []
      refine ⟨h0.noF rfl, sign_i h0 (by omega) ?_⟩
      rw [show (tx.drop a).take 1 = [40] by rw [e0]; rfl]
      simpa?! only []
      refine opt_of (a := .int a) (h0.get rfl) ?_
      simpa?! only []
      refine put_at h0 ?_
      rw [show ((a : Int) + 1) = ((a + 1 : Nat) : Int) by omega]
      have h1 : RtAt (s.set k (.ins 20 (rtF tx r ((a + 1 : Nat) : Int)))) k tx r ((a + 1 : Nat) : Int) := h0.set
      have h2 : RtAt (s.set k (.ins 20 (rtF tx r ((a + 1 + kThen.length : Nat) : Int)))) k tx r ((a + 1 + kThen.length : Nat) : Int) := h0.set
      simpa?! only []
      refine ⟨h1.noF rfl, letters_i h1 hl e1 (by unfold IsW IsL; decide) (nl_parts _ post) (by omega) ?_⟩
      rw [rt_set]
      simpa?! only [e_need]
      refine ⟨h2.noF rfl, by decide, ?_⟩
      refine opt_of (a := [[116, 101, 114, 109], [116, 101, 114, 109]]) rfl ?_
      unfold rm_body at F
      refine F _ h2 e2 fun c3 => ?_
      have h3 : RtAt (s.set k (.ins 20 (rtF tx r ((a + 1 + kThen.length + Ln : Nat) : Int)))) k tx r ((a + 1 + kThen.length + Ln : Nat) : Int) := h0.set
      rw [rt_set]
      simpa?! only []
      refine ⟨h3.noF rfl, past_i h3 (by omega) (by rw [e3]; rfl) ?_⟩
      rw [rt_set]
      simpa?! only []
      rw [lq, show a + (1 + kThen.length + Ln + 1) = a + 1 + 4 + Ln + 1 by simp only [List.length_cons, List.length_nil]; omega] at q
      exact q
    | back u =>
      have et := txt_prx (.back u) rfl
      have lq : (txt (.back u)).length = 1 + kBack.length + (((Tm.prx (.back u)).map fun p => 32 :: ptx p).flatten).length + 1 := by rw [et]; simp only [List.length_append, List.length_singleton, Tm.kwx]
      rw [et] at e len
      have F := fun (P : PEn) => rm_loop (P := P) (j := j) (k := k) (tx := tx) (post := post) (r := r) (t := .back u) rfl ht hd hl (c3 := .un) (s := s.set k (.ins 20 (rtF tx r ((a + 1 + kBack.length : Nat) : Int)))) (b := a + 1 + kBack.length)
      have e0 : tx.drop a = [40] ++ (kBack ++ ((Tm.prx (.back u)).map fun p => 32 :: ptx p).flatten ++ ([41] ++ post)) := by rw [e]; simp [Tm.kwx]
      have e1 : tx.drop (a + 1) = kBack ++ (((Tm.prx (.back u)).map fun p => 32 :: ptx p).flatten ++ ([41] ++ post)) := (drop_more e0).trans (by simp)
      have e2 : tx.drop (a + 1 + kBack.length) = ((Tm.prx (.back u)).map fun p => 32 :: ptx p).flatten ++ ([41] ++ post) := drop_more e1
      have e3 : tx.drop (a + 1 + kBack.length + (((Tm.prx (.back u)).map fun p => 32 :: ptx p).flatten).length) = [41] ++ post := drop_more e2
      simp only [List.length_append, List.length_singleton] at len
      have kl : Tm.kwx (.back u) = kBack := rfl
      rw [kl] at len
      generalize hLn : (((Tm.prx (.back u)).map fun p => 32 :: ptx p).flatten).length = Ln at *
      rw [show (tx.drop a).take 1 = [40] by rw [e0]; rfl]
      simpa?! only []
      refine br_neg rfl ?_
      simpa?! only []
      refine ⟨h0.noF rfl, sign_i h0 (by omega) ?_⟩
      rw [show (tx.drop a).take 1 = [40] by rw [e0]; rfl]
      simpa?! only []
      refine opt_of (a := .int a) (h0.get rfl) ?_
      simpa?! only []
      refine put_at h0 ?_
      rw [show ((a : Int) + 1) = ((a + 1 : Nat) : Int) by omega]
      have h1 : RtAt (s.set k (.ins 20 (rtF tx r ((a + 1 : Nat) : Int)))) k tx r ((a + 1 : Nat) : Int) := h0.set
      have h2 : RtAt (s.set k (.ins 20 (rtF tx r ((a + 1 + kBack.length : Nat) : Int)))) k tx r ((a + 1 + kBack.length : Nat) : Int) := h0.set
      simpa?! only []
      refine ⟨h1.noF rfl, letters_i h1 hl e1 (by unfold IsW IsL; decide) (nl_parts _ post) (by omega) ?_⟩
      rw [rt_set]
      simpa?! only [e_need]
      refine ⟨h2.noF rfl, by decide, ?_⟩
      refine opt_of (a := [[116, 101, 114, 109]]) rfl ?_
      unfold rm_body at F
      refine F _ h2 e2 fun c3 => ?_
      have h3 : RtAt (s.set k (.ins 20 (rtF tx r ((a + 1 + kBack.length + Ln : Nat) : Int)))) k tx r ((a + 1 + kBack.length + Ln : Nat) : Int) := h0.set
      rw [rt_set]
      simpa?! only []
      refine ⟨h3.noF rfl, past_i h3 (by omega) (by rw [e3]; rfl) ?_⟩
      rw [rt_set]
      simpa?! only []
      rw [lq, show a + (1 + kBack.length + Ln + 1) = a + 1 + 4 + Ln + 1 by simp only [List.length_cons, List.length_nil]; omega] at q
      exact q
    | again i u =>
      have et := txt_prx (.again i u) rfl
      have lq : (txt (.again i u)).length = 1 + kAgain.length + (((Tm.prx (.again i u)).map fun p => 32 :: ptx p).flatten).length + 1 := by rw [et]; simp only [List.length_append, List.length_singleton, Tm.kwx]
      rw [et] at e len
      have F := fun (P : PEn) => rm_loop (P := P) (j := j) (k := k) (tx := tx) (post := post) (r := r) (t := .again i u) rfl ht hd hl (c3 := .un) (s := s.set k (.ins 20 (rtF tx r ((a + 1 + kAgain.length : Nat) : Int)))) (b := a + 1 + kAgain.length)
      have e0 : tx.drop a = [40] ++ (kAgain ++ ((Tm.prx (.again i u)).map fun p => 32 :: ptx p).flatten ++ ([41] ++ post)) := by rw [e]; simp [Tm.kwx]
      have e1 : tx.drop (a + 1) = kAgain ++ (((Tm.prx (.again i u)).map fun p => 32 :: ptx p).flatten ++ ([41] ++ post)) := (drop_more e0).trans (by simp)
      have e2 : tx.drop (a + 1 + kAgain.length) = ((Tm.prx (.again i u)).map fun p => 32 :: ptx p).flatten ++ ([41] ++ post) := drop_more e1
      have e3 : tx.drop (a + 1 + kAgain.length + (((Tm.prx (.again i u)).map fun p => 32 :: ptx p).flatten).length) = [41] ++ post := drop_more e2
      simp only [List.length_append, List.length_singleton] at len
      have kl : Tm.kwx (.again i u) = kAgain := rfl
      rw [kl] at len
      generalize hLn : (((Tm.prx (.again i u)).map fun p => 32 :: ptx p).flatten).length = Ln at *
      rw [show (tx.drop a).take 1 = [40] by rw [e0]; rfl]
      simpa?! only []
      refine br_neg rfl ?_
      simpa?! only []
      refine ⟨h0.noF rfl, sign_i h0 (by omega) ?_⟩
      rw [show (tx.drop a).take 1 = [40] by rw [e0]; rfl]
      simpa?! only []
      refine opt_of (a := .int a) (h0.get rfl) ?_
      simpa?! only []
      refine put_at h0 ?_
      rw [show ((a : Int) + 1) = ((a + 1 : Nat) : Int) by omega]
      have h1 : RtAt (s.set k (.ins 20 (rtF tx r ((a + 1 : Nat) : Int)))) k tx r ((a + 1 : Nat) : Int) := h0.set
      have h2 : RtAt (s.set k (.ins 20 (rtF tx r ((a + 1 + kAgain.length : Nat) : Int)))) k tx r ((a + 1 + kAgain.length : Nat) : Int) := h0.set
      simpa?! only []
      refine ⟨h1.noF rfl, letters_i h1 hl e1 (by unfold IsW IsL; decide) (nl_parts _ post) (by omega) ?_⟩
      rw [rt_set]
      simpa?! only [e_need]
      refine ⟨h2.noF rfl, by decide, ?_⟩
      refine opt_of (a := [[116, 105, 109, 101, 115], [116, 101, 114, 109]]) rfl ?_
      unfold rm_body at F
      refine F _ h2 e2 fun c3 => ?_
      have h3 : RtAt (s.set k (.ins 20 (rtF tx r ((a + 1 + kAgain.length + Ln : Nat) : Int)))) k tx r ((a + 1 + kAgain.length + Ln : Nat) : Int) := h0.set
      rw [rt_set]
      simpa?! only []
      refine ⟨h3.noF rfl, past_i h3 (by omega) (by rw [e3]; rfl) ?_⟩
      rw [rt_set]
      simpa?! only []
      rw [lq, show a + (1 + kAgain.length + Ln + 1) = a + 1 + 5 + Ln + 1 by simp only [List.length_cons, List.length_nil]; omega] at q
      exact q
    | fr x u v =>
      have et := txt_prx (.fr x u v) rfl
      have lq : (txt (.fr x u v)).length = 1 + kFor.length + (((Tm.prx (.fr x u v)).map fun p => 32 :: ptx p).flatten).length + 1 := by rw [et]; simp only [List.length_append, List.length_singleton, Tm.kwx]
      rw [et] at e len
      have F := fun (P : PEn) => rm_loop (P := P) (j := j) (k := k) (tx := tx) (post := post) (r := r) (t := .fr x u v) rfl ht hd hl (c3 := .un) (s := s.set k (.ins 20 (rtF tx r ((a + 1 + kFor.length : Nat) : Int)))) (b := a + 1 + kFor.length)
      have e0 : tx.drop a = [40] ++ (kFor ++ ((Tm.prx (.fr x u v)).map fun p => 32 :: ptx p).flatten ++ ([41] ++ post)) := by rw [e]; simp [Tm.kwx]
      have e1 : tx.drop (a + 1) = kFor ++ (((Tm.prx (.fr x u v)).map fun p => 32 :: ptx p).flatten ++ ([41] ++ post)) := (drop_more e0).trans (by simp)
      have e2 : tx.drop (a + 1 + kFor.length) = ((Tm.prx (.fr x u v)).map fun p => 32 :: ptx p).flatten ++ ([41] ++ post) := drop_more e1
      have e3 : tx.drop (a + 1 + kFor.length + (((Tm.prx (.fr x u v)).map fun p => 32 :: ptx p).flatten).length) = [41] ++ post := drop_more e2
      simp only [List.length_append, List.length_singleton] at len
      have kl : Tm.kwx (.fr x u v) = kFor := rfl
      rw [kl] at len
      generalize hLn : (((Tm.prx (.fr x u v)).map fun p => 32 :: ptx p).flatten).length = Ln at *
      rw [show (tx.drop a).take 1 = [40] by rw [e0]; rfl]
      simpa?! only []
      refine br_neg rfl ?_
      simpa?! only []
      refine ⟨h0.noF rfl, sign_i h0 (by omega) ?_⟩
      rw [show (tx.drop a).take 1 = [40] by rw [e0]; rfl]
      simpa?! only []
      refine opt_of (a := .int a) (h0.get rfl) ?_
      simpa?! only []
      refine put_at h0 ?_
      rw [show ((a : Int) + 1) = ((a + 1 : Nat) : Int) by omega]
      have h1 : RtAt (s.set k (.ins 20 (rtF tx r ((a + 1 : Nat) : Int)))) k tx r ((a + 1 : Nat) : Int) := h0.set
      have h2 : RtAt (s.set k (.ins 20 (rtF tx r ((a + 1 + kFor.length : Nat) : Int)))) k tx r ((a + 1 + kFor.length : Nat) : Int) := h0.set
      simpa?! only []
      refine ⟨h1.noF rfl, letters_i h1 hl e1 (by unfold IsW IsL; decide) (nl_parts _ post) (by omega) ?_⟩
      rw [rt_set]
      simpa?! only [e_need]
      refine ⟨h2.noF rfl, by decide, ?_⟩
      refine opt_of (a := [[108, 101, 116, 116, 101, 114], [116, 101, 114, 109], [116, 101, 114, 109]]) rfl ?_
      unfold rm_body at F
      refine F _ h2 e2 fun c3 => ?_
      have h3 : RtAt (s.set k (.ins 20 (rtF tx r ((a + 1 + kFor.length + Ln : Nat) : Int)))) k tx r ((a + 1 + kFor.length + Ln : Nat) : Int) := h0.set
      rw [rt_set]
      simpa?! only []
      refine ⟨h3.noF rfl, past_i h3 (by omega) (by rw [e3]; rfl) ?_⟩
      rw [rt_set]
      simpa?! only []
      rw [lq, show a + (1 + kFor.length + Ln + 1) = a + 1 + 3 + Ln + 1 by simp only [List.length_cons, List.length_nil]; omega] at q
      exact q
  · exact h.elim
end Pu
set_option maxRecDepth 100000
set_option maxHeartbeats 1000000
namespace Pu
open PySem L2
local macro_rules | `(tactic| simpa?! only [$xs,*]) => `(tactic| simp -dsimp only [↓opt_some, ↓br_true, ↓br_false, ↓nameC_d, ↓nameC_own, ↓nameC_dK, ↓nameC_dT, ↓x_name, ↓fzC_d, ↓fzC_own, ↓fzC_dK, ↓fzC_dT, ↓x_fzn, ↓x_fzK, ↓x_fzT, ↓x_fzd, ↓x_fzo, ↓x_rvn, ↓x_rvd, ↓x_rvo, ↓retC_d, ↓retC_own, ↓x_retn, ↓x_retd, ↓x_reto, ↓x_hd, ↓x_ho, ↓x_hn, ↓x_ad, ↓x_ao, ↓x_an, ↓x_set, ↓x_seq, ↓x_next, ↓x_break, ↓x_cont, ↓x_drop, ↓x_ret, ↓x_retN, ↓x_if, ↓x_asg, ↓x_asgG, ↓x_while, ↓x_for, ↓x_2, ↓x_k2ad, ↓x_k2ao, ↓x_k2an, ↓x_k2b, ↓x_k2c, ↓x_1, ↓x_k1c, ↓x_D, ↓bC_b, ↓x_B, ↓x_kBc, ↓x_and, ↓x_kAn, ↓x_or, ↓x_kOr, ↓x_not, ↓x_kNo, ↓x_andV, ↓x_kAV, ↓x_orV, ↓x_kOV, ↓x_notV, ↓x_kNV, ↓x_tif, ↓x_nil, ↓x_kC2, ↓x_cons, ↓x_kC1d, ↓x_kC1o, ↓x_kC1k, ↓x_kC1t, ↓x_kC1n, ↓x_kC3d, ↓x_kC3o, ↓x_kC3k, ↓x_kC3t, ↓x_tup, ↓x_kTu, ↓x_lst, ↓x_kLs, ↓x_rnil, ↓x_kR2, ↓x_rcons, ↓x_kR1d, ↓x_kR1o, ↓x_kR1n, ↓x_callP, ↓x_kCP, ↓x_rvLc, ↓x_rvLn, ↓x_meth, ↓x_kM0d, ↓x_kM0o, ↓x_kM0n, ↓x_kM1, ↓x_kM2, ↓x_kM3, ↓x_meth0, ↓x_mut, ↓x_kU1n, ↓x_kU1d, ↓x_kU2, ↓x_kU3, ↓x_mg, ↓x_ms, ↓x_sl, ↓x_kS0d, ↓x_kS0o, ↓x_kS0n, ↓x_kS1, ↓x_kS2, ↓x_kS3, ↓x_on, ↓iC_i, ↓x_os, ↓x_kOs, ↓x_lc, ↓x_any, ↓x_pure, ↓sC_s, ↓x_rev, ↓x_call, ↓x_kCa, ↓x_gn, ↓x_gnil, ↓x_gcons, ↓x_isi, ↓a_ii, ↓a_ss, ↓a_ll, ↓a_tt, ↓a_I, ↓a_neg, ↓a_mul, ↓a_mulL, ↓a_mulS, ↓a_eq, ↓a_ne, ↓a_lt, ↓a_le, ↓a_gt, ↓a_ge, ↓a_ltS, ↓a_leS, ↓a_inS, ↓a_ninS, ↓a_inL, ↓a_ninL, ↓a_inT, ↓a_ninT, ↓a_ixL, ↓a_ixT, ↓a_ixS, ↓a_ixR, ↓a_ixB, ↓a_slL, ↓a_slT, ↓a_slS, ↓a_lenS, ↓a_lenL, ↓a_lenT, ↓a_lenR, ↓a_join, ↓a_ixof, ↓a_ixofL, ↓a_rng1, ↓a_rng2, ↓a_min2, ↓a_max2, ↓a_lstS, ↓a_lstL, ↓a_lstT, ↓a_int, ↓a_intB, ↓a_isN, ↓x_popAt, ↓x_all, ↓x_anyB, ↓a_isB, ↓a_pop, ↓x_dict0, ↓x_aK, ↓x_kg, ↓x_kgRn, ↓x_kgRf, ↓x_zips, ↓x_ks, ↓x_dg, ↓x_di, ↓x_dpt, ↓x_enum, ↓a_backL, ↓a_backS, ↓a_backT, ↓x_never, ↓a_tupL, ↓a_tupT, ↓x_sort, ↓x_sortS, ↓x_sortP, ↓a_slR, ↓x_zip, ↓x_sum, ↓a_count, ↓augC_i, ↓x_aug, ↓x_par, ↓x_raise, ↓x_callX, ↓x_try, ↓x_subA, ↓x_setN, ↓a_two, ↓x_swIx, ↓x_mkX, ↓x_mk0, ↓x_raise0, ↓a_exB, ↓a_tbl, ↓a_cbl, ↓x_isX, ↓x_xattr, ↓x_dictT0, ↓x_aT, ↓retC_dT, ↓retC_dK, ↓x_retT, ↓x_retK, ↓x_tgg, ↓x_tgRn, ↓x_tgRf, ↓x_tss, ↓x_dgT, ↓x_dptT, ↓x_callT, ↓a_lenTT, ↓a_listT, ↓a_dictT, ↓a_dictK, ↓x_chn, ↓a_mmT, ↓x_sortN, ↓a_lenSS, ↓a_ltT, ↓x_chn3, ↓a_dictN, ↓a_gN, ↓x_gls, ↓x_revT, ↓x_chS, ↓x_ltN, ↓x_try0, ↓x_fld, ↓x_kF, ↓x_kSF, ↓x_sfldZ, ↓x_sfldP, ↓x_kpd, ↓x_kpo, ↓x_kpK, ↓x_kpT, ↓x_kpC, ↓x_kpn, ↓x_2O, ↓x_k2adO, ↓x_k2aoO, ↓x_k2anO, ↓x_k2bO, ↓x_k2cO, ↓x_im, ↓x_kIM, ↓x_make, ↓x_kMk, ↓x_gtN, ↓x_methT, ↓x_kMTd, ↓x_mT1, ↓x_prK, ↓x_ixT, ↓x_prI, ↓x_splitA, ↓x_strI, ↓x_intS, ↓x_fs3, ↓x_f3I, ↓x_zipS, ↓x_parO, ↓x_asgZ, ↓x_asgK, ↓x_gd, ↓x_kGD, ↓x_case, ↓x_imX, ↓x_kIMX, ↓x_lcX, ↓x_ksr, ↓x_msr, ↓x_disp2, ↓x_kD2, ↓x_dgk2, ↓x_kG2, ↓x_clear, rvC_d, rvC_own, consO_s, isTy_s, isTy_l, mgC_own, walk_l, walk_t, walk_s, toR_d, toR_o, items_l, items_t, ok_s, ok_i, ok_b, ok_n, ok_l, ok_t, okL_n, okL_c, e_ss, e_ii, e_bb, e_ll, e_tt, eL_nn, eL_cc, eL_nc, eL_cn, ty_s, ty_i, ty_l, ty_b, kgC_dK, key_i, key_s, kI_eq, kS_eq, oneR_1, walkE_l, walkE_t, walkE_s, ty_t, twoR_2, side_l, side_t, twoD_2, ow_nil, ow_un, ow_d, toR_T, toR_K, tgC_dT, tupK_t, consK_s, keyL_n, keyL_c, fold1, intL_n, consI_s, intL_c, consS_s, strL_n, strL_c, tC_s, m_app, m_ext, m_rev, sline, startC, restE, restC, wipeE, wipeC, plainC, List.getElem?_cons_zero, List.getElem?_cons_succ, List.getD_cons_zero, List.getD_cons_succ, List.set_cons_zero, List.set_cons_succ, List.length_cons, List.length_nil, List.map_cons, List.map_nil, List.replicate_succ, List.replicate_zero, List.cons_append, List.nil_append, Nat.reduceAdd, Nat.reduceMul, Int.reduceAdd, Int.reduceSub, Int.reduceMul, Nat.reduceSub, Nat.reduceLT, Nat.reduceLeDiff, Nat.lt_add_one, Int.reduceNeg, Int.reduceLT, Int.reduceLE, Int.reduceToNat, Int.reducePow, Nat.reducePow, List.flatten_cons, List.flatten_nil, List.append_nil, true_and, and_true, true_or, or_true, eq_self, and_self, decide_true, decide_false, Bool.not_true, Bool.not_false, Bool.not_not, Option.isSome_some, Bool.and_true, Bool.true_and, Bool.and_self, reduceIte, ↓reduceIte, Bool.false_eq_true, ite_self, reduceCtorEq, ne_eq, not_false_eq_true, forall_const, ↓x_gtup, ↓a_repr, ↓x_min1, ↓a_min2S, ↓x_yes, ↓x_ite, x_gnil, walk_l, walk_t, walk_s, $xs,*])
/-- a row as data -/
def rowT (r : List Nat × Tm) : D := .tup [.str r.1, tmD r.2]
end Pu
set_option maxRecDepth 100000
set_option maxHeartbeats 1000000
namespace Pu
open PySem L2
local macro_rules | `(tactic| simpa?! only [$xs,*]) => `(tactic| simp -dsimp only [↓opt_some, ↓br_true, ↓br_false, ↓nameC_d, ↓nameC_own, ↓nameC_dK, ↓nameC_dT, ↓x_name, ↓fzC_d, ↓fzC_own, ↓fzC_dK, ↓fzC_dT, ↓x_fzn, ↓x_fzK, ↓x_fzT, ↓x_fzd, ↓x_fzo, ↓x_rvn, ↓x_rvd, ↓x_rvo, ↓retC_d, ↓retC_own, ↓x_retn, ↓x_retd, ↓x_reto, ↓x_hd, ↓x_ho, ↓x_hn, ↓x_ad, ↓x_ao, ↓x_an, ↓x_set, ↓x_seq, ↓x_next, ↓x_break, ↓x_cont, ↓x_drop, ↓x_ret, ↓x_retN, ↓x_if, ↓x_asg, ↓x_asgG, ↓x_while, ↓x_for, ↓x_2, ↓x_k2ad, ↓x_k2ao, ↓x_k2an, ↓x_k2b, ↓x_k2c, ↓x_1, ↓x_k1c, ↓x_D, ↓bC_b, ↓x_B, ↓x_kBc, ↓x_and, ↓x_kAn, ↓x_or, ↓x_kOr, ↓x_not, ↓x_kNo, ↓x_andV, ↓x_kAV, ↓x_orV, ↓x_kOV, ↓x_notV, ↓x_kNV, ↓x_tif, ↓x_nil, ↓x_kC2, ↓x_cons, ↓x_kC1d, ↓x_kC1o, ↓x_kC1k, ↓x_kC1t, ↓x_kC1n, ↓x_kC3d, ↓x_kC3o, ↓x_kC3k, ↓x_kC3t, ↓x_tup, ↓x_kTu, ↓x_lst, ↓x_kLs, ↓x_rnil, ↓x_kR2, ↓x_rcons, ↓x_kR1d, ↓x_kR1o, ↓x_kR1n, ↓x_callP, ↓x_kCP, ↓x_rvLc, ↓x_rvLn, ↓x_meth, ↓x_kM0d, ↓x_kM0o, ↓x_kM0n, ↓x_kM1, ↓x_kM2, ↓x_kM3, ↓x_meth0, ↓x_mut, ↓x_kU1n, ↓x_kU1d, ↓x_kU2, ↓x_kU3, ↓x_mg, ↓x_ms, ↓x_sl, ↓x_kS0d, ↓x_kS0o, ↓x_kS0n, ↓x_kS1, ↓x_kS2, ↓x_kS3, ↓x_on, ↓iC_i, ↓x_os, ↓x_kOs, ↓x_lc, ↓x_any, ↓x_pure, ↓sC_s, ↓x_rev, ↓x_call, ↓x_kCa, ↓x_gn, ↓x_gnil, ↓x_gcons, ↓x_isi, ↓a_ii, ↓a_ss, ↓a_ll, ↓a_tt, ↓a_I, ↓a_neg, ↓a_mul, ↓a_mulL, ↓a_mulS, ↓a_eq, ↓a_ne, ↓a_lt, ↓a_le, ↓a_gt, ↓a_ge, ↓a_ltS, ↓a_leS, ↓a_inS, ↓a_ninS, ↓a_inL, ↓a_ninL, ↓a_inT, ↓a_ninT, ↓a_ixL, ↓a_ixT, ↓a_ixS, ↓a_ixR, ↓a_ixB, ↓a_slL, ↓a_slT, ↓a_slS, ↓a_lenS, ↓a_lenL, ↓a_lenT, ↓a_lenR, ↓a_join, ↓a_ixof, ↓a_ixofL, ↓a_rng1, ↓a_rng2, ↓a_min2, ↓a_max2, ↓a_lstS, ↓a_lstL, ↓a_lstT, ↓a_int, ↓a_intB, ↓a_isN, ↓x_popAt, ↓x_all, ↓x_anyB, ↓a_isB, ↓a_pop, ↓x_dict0, ↓x_aK, ↓x_kg, ↓x_kgRn, ↓x_kgRf, ↓x_zips, ↓x_ks, ↓x_dg, ↓x_di, ↓x_dpt, ↓x_enum, ↓a_backL, ↓a_backS, ↓a_backT, ↓x_never, ↓a_tupL, ↓a_tupT, ↓x_sort, ↓x_sortS, ↓x_sortP, ↓a_slR, ↓x_zip, ↓x_sum, ↓a_count, ↓augC_i, ↓x_aug, ↓x_par, ↓x_raise, ↓x_callX, ↓x_try, ↓x_subA, ↓x_setN, ↓a_two, ↓x_swIx, ↓x_mkX, ↓x_mk0, ↓x_raise0, ↓a_exB, ↓a_tbl, ↓a_cbl, ↓x_isX, ↓x_xattr, ↓x_dictT0, ↓x_aT, ↓retC_dT, ↓retC_dK, ↓x_retT, ↓x_retK, ↓x_tgg, ↓x_tgRn, ↓x_tgRf, ↓x_tss, ↓x_dgT, ↓x_dptT, ↓x_callT, ↓a_lenTT, ↓a_listT, ↓a_dictT, ↓a_dictK, ↓x_chn, ↓a_mmT, ↓x_sortN, ↓a_lenSS, ↓a_ltT, ↓x_chn3, ↓a_dictN, ↓a_gN, ↓x_gls, ↓x_revT, ↓x_chS, ↓x_ltN, ↓x_try0, ↓x_fld, ↓x_kF, ↓x_kSF, ↓x_sfldZ, ↓x_sfldP, ↓x_kpd, ↓x_kpo, ↓x_kpK, ↓x_kpT, ↓x_kpC, ↓x_kpn, ↓x_2O, ↓x_k2adO, ↓x_k2aoO, ↓x_k2anO, ↓x_k2bO, ↓x_k2cO, ↓x_im, ↓x_kIM, ↓x_make, ↓x_kMk, ↓x_gtN, ↓x_methT, ↓x_kMTd, ↓x_mT1, ↓x_prK, ↓x_ixT, ↓x_prI, ↓x_splitA, ↓x_strI, ↓x_intS, ↓x_fs3, ↓x_f3I, ↓x_zipS, ↓x_parO, ↓x_asgZ, ↓x_asgK, ↓x_gd, ↓x_kGD, ↓x_case, ↓x_imX, ↓x_kIMX, ↓x_lcX, ↓x_ksr, ↓x_msr, ↓x_disp2, ↓x_kD2, ↓x_dgk2, ↓x_kG2, ↓x_clear, ↓x_kin, ↓x_kKI, ↓x_khas, ↓x_kKH, ↓x_igt, ↓x_izg, ↓x_kIG, ↓x_split1, ↓x_strAi, ↓x_strAs, rvC_d, rvC_own, consO_s, isTy_s, isTy_l, mgC_own, walk_l, walk_t, walk_s, toR_d, toR_o, items_l, items_t, ok_s, ok_i, ok_b, ok_n, ok_l, ok_t, okL_n, okL_c, e_ss, e_ii, e_bb, e_ll, e_tt, eL_nn, eL_cc, eL_nc, eL_cn, ty_s, ty_i, ty_l, ty_b, kgC_dK, key_i, key_s, kI_eq, kS_eq, oneR_1, walkE_l, walkE_t, walkE_s, ty_t, twoR_2, side_l, side_t, twoD_2, ow_nil, ow_un, ow_d, toR_T, toR_K, tgC_dT, tupK_t, consK_s, keyL_n, keyL_c, fold1, intL_n, consI_s, intL_c, consS_s, strL_n, strL_c, tC_s, m_app, m_ext, m_rev, sline, startC, restE, restC, wipeE, wipeC, plainC, List.getElem?_cons_zero, List.getElem?_cons_succ, List.getD_cons_zero, List.getD_cons_succ, List.set_cons_zero, List.set_cons_succ, List.length_cons, List.length_nil, List.map_cons, List.map_nil, List.replicate_succ, List.replicate_zero, List.cons_append, List.nil_append, Nat.reduceAdd, Nat.reduceMul, Int.reduceAdd, Int.reduceSub, Int.reduceMul, Nat.reduceSub, Nat.reduceLT, Nat.reduceLeDiff, Nat.lt_add_one, Int.reduceNeg, Int.reduceLT, Int.reduceLE, Int.reduceToNat, Int.reducePow, Nat.reducePow, List.flatten_cons, List.flatten_nil, List.append_nil, true_and, and_true, true_or, or_true, eq_self, and_self, decide_true, decide_false, Bool.not_true, Bool.not_false, Bool.not_not, Option.isSome_some, Bool.and_true, Bool.true_and, Bool.and_self, reduceIte, ↓reduceIte, Bool.false_eq_true, ite_self, reduceCtorEq, ne_eq, not_false_eq_true, forall_const, ↓x_gtup, ↓a_repr, ↓x_min1, ↓a_min2S, ↓x_yes, ↓x_ite, x_gnil, walk_l, walk_t, walk_s, $xs,*])
def rowX (r : List Nat × Tm) : List Nat := r.1 ++ [32, 61, 32] ++ txt r.2
def progX (rows : List (List Nat × Tm)) : List Nat := joinN [10] (rows.map rowX)
def ROk (r : List Nat × Tm) : Prop := NameOk r.1 ∧ TOk r.2 ∧ r.2.dp < 8
theorem name_ch {n : List Nat} (h : NameOk n) {c : Nat} (hc : c ∈ n) : c ≠ 10 ∧ c ≠ 32 := by
  have := SM_mem.mp (h.2.2.1 c hc)
  omega
theorem txt_all : ∀ {t : Tm}, TOk t → (txt t).all (fun c => decide (c ≠ 10)) = true
  | .walk w, h => by
    have hw : w.all (fun c => decide (c ≠ 10)) = true := List.all_eq_true.mpr fun c hc => decide_eq_true (by have := h.1 c hc; unfold IsL at this; omega)
    simp only [txt, List.all_append, hw]
    decide
  | .name n, h => List.all_eq_true.mpr fun c hc => decide_eq_true (name_ch h hc).1
  | .thn s t, h => by
    simp only [txt, List.all_append, txt_all h.1, txt_all h.2]
    decide
  | .back t, h => by
    simp only [txt, List.all_append, txt_all (t := t) h]
    decide
  | .again k t, h => by
    have hk : (TL.numL k).all (fun c => decide (c ≠ 10)) = true := by
      rw [num_one h.1]
      simp
      omega
    simp only [txt, List.all_append, txt_all h.2, hk]
    decide
  | .fr x s t, h => by
    have := SM_mem.mp h.1
    have hx : [x].all (fun c => decide (c ≠ 10)) = true := by simp; omega
    simp only [txt, List.all_append, txt_all h.2.1, txt_all h.2.2, hx]
    decide
theorem txt_ch {t : Tm} (h : TOk t) (c : Nat) (hc : c ∈ txt t) : c ≠ 10 := of_decide_eq_true (List.all_eq_true.mp (txt_all h) c hc)
theorem row_len {r : List Nat × Tm} (h : ROk r) : (rowX r).length ≤ 256010 := by
  have := txt_8 h.2.1 h.2.2
  have := h.1.2.1
  simp only [rowX, List.length_append, List.length_cons, List.length_nil]
  omega
theorem prog_len {rows : List (List Nat × Tm)} (h : ∀ r ∈ rows, ROk r) : ((rows.map rowX).map List.length).sum ≤ 256010 * rows.length := by
  induction rows with
  | nil => simp
  | cons a l ih =>
    have := ih fun r hr => h r (List.mem_cons_of_mem _ hr)
    have := row_len (h a (by simp))
    rw [List.map_cons, List.map_cons, List.sum_cons, List.length_cons]
    omega
theorem prog_len2 {rows : List (List Nat × Tm)} (h : ∀ r ∈ rows, ROk r) : (progX rows).length ≤ 256011 * rows.length := by
  have h1 := joinN_len [10] (rows.map rowX)
  have h2 := prog_len h
  rw [List.length_map] at h1
  unfold progX
  simp only [List.length_cons, List.length_nil] at h1
  omega
theorem prog_spl {rows : List (List Nat × Tm)} (h : ∀ r ∈ rows, ROk r) (hn : rows ≠ []) : TL.spl [10] 0 [] (progX rows) = rows.map rowX := by
  unfold progX
  rw [joinN_eq]
  refine TL.spl_join (fun z => hn (List.map_eq_nil_iff.mp z)) fun p hp => ?_
  obtain ⟨r, hr, rfl⟩ := List.mem_map.mp hp
  intro hc
  unfold rowX at hc
  rcases List.mem_append.mp hc with hc | hc
  · rcases List.mem_append.mp hc with hc | hc
    · exact (name_ch (h r hr).1 hc).1 rfl
    · revert hc; decide
  · exact txt_ch (h r hr).2.1 10 hc rfl
theorem row_par {r : List Nat × Tm} (h : NameOk r.1) : par1 [32, 61, 32] (rowX r) = [r.1, txt r.2] := by
  have := TL.par_part1 (s := 32) (S := [61, 32]) (p := r.1) (rest := txt r.2) (acc := []) (fun hc => (name_ch h hc).2 rfl)
  unfold par1 rowX
  rw [List.append_assoc, this]
  rfl
/-- a comprehension whose store grows -/
theorem lcR_st {g : PTG} {te : PTE} {vs : List Nat} {Q : List D → En → Prop} (I : List D → List D → En → Prop) (hd : ∀ acc e, I [] acc e → Q acc e)
    (h : ∀ d r acc e, I (d :: r) acc e → ∀ K : D → En → Prop, (∀ y e', I r (acc ++ [y]) (wipeE vs e') → K y (wipeE vs e')) → g d e fun e1 => te noX e1 fun r e3 => fz r e3 fun y e4 => K y (wipeE vs e4)) :
    ∀ (ds acc : List D) (e : En), I ds acc e → lcR g cYes te vs ds acc e Q
  | [], acc, e, i => hd acc e i
  | d :: ds, acc, e, i => h d ds acc e i (fun y e' => lcR g cYes te vs ds (acc ++ [y]) e' Q) fun y e' i' => lcR_st I hd h ds (acc ++ [y]) _ i'
/-- the law's writing -/
def m_law_text : PM := fun ds st Q => match ds with
  | [p] => ∃ rows : List (List Nat × Tm), (p = .lst (rows.map rowT) ∨ p = .tup (rows.map rowT)) ∧ (∀ r ∈ rows, ROk r) ∧ rows.length ≤ 40 ∧ Q (.d (.str (progX rows))) st
  | _ => False
theorem ltext_i {rows : List (List Nat × Tm)} {p : D} {st : Sto} {Q : C → Sto → Prop} (hp : p = .lst (rows.map rowT) ∨ p = .tup (rows.map rowT)) (h : ∀ r ∈ rows, ROk r) (hl : rows.length ≤ 40) (q : Q (.d (.str (progX rows))) st) : m_law_text [p] st Q := ⟨rows, hp, h, hl, q⟩
def t_law_text : PTS := sRet (tMeth "str" pJoin (tD (.str [10])) (rCons (cLc (iAny (tName 0)) (gTup 2 (gCons (gName 1) (gCons (gName 2) (gNil)))) (cYes) (t2 (t2 (tName 1) (tD (.str [32, 61, 32])) pAdd) (tCall0 (m_law_term_text 8) (tCons (tName 2) (tNil))) pAdd) [1, 2]) (rNil)))
abbrev N_law_text : List Str := ["_law_program", "_law_name", "_law_term_here"]
theorem len_law_text (ds : List D) (s : Sto) (Q : C → Sto → Prop) (h : m_law_text ds s Q) : ds.length = 1 := by
  unfold m_law_text at h
  split at h
  · rfl
  · exact h.elim
theorem p_law_text (ds : List D) (s : Sto) (Q : C → Sto → Prop) (h : m_law_text ds s Q) : t_law_text noX { nx := fun e => Q (.d .non) e.st, rt := fun c e => Q c e.st } ⟨startC N_law_text ds, s⟩ := by
  unfold m_law_text at h
  split at h
  · rename_i p
    obtain ⟨rows, hp, h1, hl, q⟩ := h
    have L1 := prog_len h1
    unfold t_law_text
    rcases hp with rfl | rfl
    · simpa?! only []
      refine ⟨by rw [List.length_map]; omega, ?_⟩
      refine lcH_mm (g0 := rowT) (fun r => D.str (rowX r)) (fun r hr K k => ?_) ?_
      · have := row_len (h1 r hr)
        have := (h1 r hr).1.2.1
        rw [show rowT r = .tup [.str r.1, tmD r.2] from rfl]
        simpa?! only []
        refine ⟨by omega, ttext_i (h1 r hr).2.1 (h1 r hr).2.2 (h1 r hr).2.2 ?_⟩
        simpa?! only []
        refine ⟨?_, k⟩
        simp only [rowX, List.length_append, List.length_cons, List.length_nil] at this ⊢
        have := txt_8 (h1 r hr).2.1 (h1 r hr).2.2
        omega
      simpa?! only []
      have em : strL (rows.map fun r => D.str (rowX r)) = some (rows.map rowX) := by
        rw [show (rows.map fun r => D.str (rowX r)) = (rows.map rowX).map D.str by rw [List.map_map]; rfl]
        exact strL_map _
      refine opt_of em ?_
      refine ⟨?_, q⟩
      rw [List.length_map]
      simp only [List.length_cons, List.length_nil]
      omega
    · simpa?! only []
      refine ⟨by rw [List.length_map]; omega, ?_⟩
      refine lcH_mm (g0 := rowT) (fun r => D.str (rowX r)) (fun r hr K k => ?_) ?_
      · have := row_len (h1 r hr)
        have := (h1 r hr).1.2.1
        rw [show rowT r = .tup [.str r.1, tmD r.2] from rfl]
        simpa?! only []
        refine ⟨by omega, ttext_i (h1 r hr).2.1 (h1 r hr).2.2 (h1 r hr).2.2 ?_⟩
        simpa?! only []
        refine ⟨?_, k⟩
        simp only [rowX, List.length_append, List.length_cons, List.length_nil] at this ⊢
        have := txt_8 (h1 r hr).2.1 (h1 r hr).2.2
        omega
      simpa?! only []
      have em : strL (rows.map fun r => D.str (rowX r)) = some (rows.map rowX) := by
        rw [show (rows.map fun r => D.str (rowX r)) = (rows.map rowX).map D.str by rw [List.map_map]; rfl]
        exact strL_map _
      refine opt_of em ?_
      refine ⟨?_, q⟩
      rw [List.length_map]
      simp only [List.length_cons, List.length_nil]
      omega
  · exact h.elim
def m_show_program : PM := fun ds st Q => match ds with
  | [p] => ∃ rows : List (List Nat × Tm), (p = .lst (rows.map rowT) ∨ p = .tup (rows.map rowT)) ∧ (∀ r ∈ rows, ROk r) ∧ rows.length ≤ 40 ∧ Q (.d (.str (progX rows))) st
  | _ => False
theorem sprog_i {rows : List (List Nat × Tm)} {p : D} {st : Sto} {Q : C → Sto → Prop} (hp : p = .lst (rows.map rowT) ∨ p = .tup (rows.map rowT)) (h : ∀ r ∈ rows, ROk r) (hl : rows.length ≤ 40) (q : Q (.d (.str (progX rows))) st) : m_show_program [p] st Q := ⟨rows, hp, h, hl, q⟩
def t_show_program : PTS := sRet (tMeth "str" pJoin (tD (.str [10])) (rCons (cLc (iAny (tName 0)) (gTup 2 (gCons (gName 1) (gCons (gName 2) (gNil)))) (cYes) (t2 (t2 (tName 1) (tD (.str [32, 61, 32])) pAdd) (tCall0 (m_show_term 8) (tCons (tName 2) (tNil))) pAdd) [1, 2]) (rNil)))
abbrev N_show_program : List Str := ["program", "name", "term"]
theorem len_show_program (ds : List D) (s : Sto) (Q : C → Sto → Prop) (h : m_show_program ds s Q) : ds.length = 1 := by
  unfold m_show_program at h
  split at h
  · rfl
  · exact h.elim
theorem p_show_program (ds : List D) (s : Sto) (Q : C → Sto → Prop) (h : m_show_program ds s Q) : t_show_program noX { nx := fun e => Q (.d .non) e.st, rt := fun c e => Q c e.st } ⟨startC N_show_program ds, s⟩ := by
  unfold m_show_program at h
  split at h
  · rename_i p
    obtain ⟨rows, hp, h1, hl, q⟩ := h
    have L1 := prog_len h1
    unfold t_show_program
    rcases hp with rfl | rfl
    · simpa?! only []
      refine ⟨by rw [List.length_map]; omega, ?_⟩
      refine lcH_mm (g0 := rowT) (fun r => D.str (rowX r)) (fun r hr K k => ?_) ?_
      · have := row_len (h1 r hr)
        have := (h1 r hr).1.2.1
        rw [show rowT r = .tup [.str r.1, tmD r.2] from rfl]
        simpa?! only []
        refine ⟨by omega, sterm_i (h1 r hr).2.1 (h1 r hr).2.2 (h1 r hr).2.2 ?_⟩
        simpa?! only []
        refine ⟨?_, k⟩
        simp only [rowX, List.length_append, List.length_cons, List.length_nil] at this ⊢
        have := txt_8 (h1 r hr).2.1 (h1 r hr).2.2
        omega
      simpa?! only []
      have em : strL (rows.map fun r => D.str (rowX r)) = some (rows.map rowX) := by
        rw [show (rows.map fun r => D.str (rowX r)) = (rows.map rowX).map D.str by rw [List.map_map]; rfl]
        exact strL_map _
      refine opt_of em ?_
      refine ⟨?_, q⟩
      rw [List.length_map]
      simp only [List.length_cons, List.length_nil]
      omega
    · simpa?! only []
      refine ⟨by rw [List.length_map]; omega, ?_⟩
      refine lcH_mm (g0 := rowT) (fun r => D.str (rowX r)) (fun r hr K k => ?_) ?_
      · have := row_len (h1 r hr)
        have := (h1 r hr).1.2.1
        rw [show rowT r = .tup [.str r.1, tmD r.2] from rfl]
        simpa?! only []
        refine ⟨by omega, sterm_i (h1 r hr).2.1 (h1 r hr).2.2 (h1 r hr).2.2 ?_⟩
        simpa?! only []
        refine ⟨?_, k⟩
        simp only [rowX, List.length_append, List.length_cons, List.length_nil] at this ⊢
        have := txt_8 (h1 r hr).2.1 (h1 r hr).2.2
        omega
      simpa?! only []
      have em : strL (rows.map fun r => D.str (rowX r)) = some (rows.map rowX) := by
        rw [show (rows.map fun r => D.str (rowX r)) = (rows.map rowX).map D.str by rw [List.map_map]; rfl]
        exact strL_map _
      refine opt_of em ?_
      refine ⟨?_, q⟩
      rw [List.length_map]
      simp only [List.length_cons, List.length_nil]
      omega
  · exact h.elim
def m_read_row : PM := fun ds st Q => match ds with
  | [.str tx, .int _] => ∃ r : List Nat × Tm, tx = rowX r ∧ ROk r ∧ ∀ ext, Q (.d (rowT r)) (st ++ ext)
  | _ => False
theorem rrow_i {r : List Nat × Tm} {k : Int} {st : Sto} {Q : C → Sto → Prop} (h : ROk r) (q : ∀ ext, Q (.d (rowT r)) (st ++ ext)) : m_read_row [.str (rowX r), .int k] st Q := ⟨r, rfl, h, q⟩
def t_read_row : PTS := sSeq (sAsg 2 (tMeth "str" pSplit1 (tName 0) (rCons (tD (.str [32, 61, 32])) (rCons (tD (.int 1)) (rNil))))) (sSeq (sIf (tOr (tB (t2 (tCallP pLen (rCons (tName 2) (rNil))) (tD (.int 2)) pLt)) (tNot (tB (tCall0 m_is_name (tCons (t2 (tName 2) (tD (.int 0)) pIx) (tNil)))))) (sNever) (sNext)) (sSeq (sAsg 3 (tMakeP 20 m_RowText___init__ (tCons (t2 (tName 2) (tD (.int 1)) pIx) (tCons (tName 1) (tNil))))) (sSeq (sAsg 4 (tMethP 20 "term" (m_RowText_term 8) (tName 3) tNil)) (sSeq (sDrop (tMethP 20 "need" m_RowText_need (tName 3) (tCons (t2 (tFldP 20 "at" (tName 3)) (tCallP pLen (rCons (t2 (tName 2) (tD (.int 1)) pIx) (rNil))) pEq) (tNil)))) (sRet (tTup (tCons (t2 (tName 2) (tD (.int 0)) pIx) (tCons (tName 4) (tNil)))))))))
abbrev N_read_row : List Str := ["text", "number", "words", "reading", "term"]
theorem len_read_row (ds : List D) (s : Sto) (Q : C → Sto → Prop) (h : m_read_row ds s Q) : ds.length = 2 := by
  unfold m_read_row at h
  split at h
  · rfl
  · exact h.elim
theorem p_read_row (ds : List D) (s : Sto) (Q : C → Sto → Prop) (h : m_read_row ds s Q) : t_read_row noX { nx := fun e => Q (.d .non) e.st, rt := fun c e => Q c e.st } ⟨startC N_read_row ds, s⟩ := by
  unfold m_read_row at h
  split at h
  · rename_i tx k
    obtain ⟨r, rfl, h1, q⟩ := h
    have l1 := row_len h1
    have l2 := txt_8 h1.2.1 h1.2.2
    unfold t_read_row
    simpa?! only []
    refine ⟨by decide, by omega, ?_⟩
    rw [row_par h1.1]
    simpa?! only []
    refine br_neg rfl ?_
    simpa?! only []
    refine at_head rfl ?_
    simpa?! only [e_isn]
    refine ⟨h1.1, ?_⟩
    refine opt_of (a := .str (txt r.2)) rfl ?_
    simpa?! only []
    have k0 : (s ++ [SO.ins 20 []])[s.length]? = some (.ins 20 []) := by rw [List.getElem?_append_right (Nat.le_refl _), Nat.sub_self]; rfl
    refine ⟨k0, rfl, ?_⟩
    rw [show (s ++ [SO.ins 20 []]).set s.length (.ins 20 (rtF (txt r.2) k 0)) = s ++ [.ins 20 (rtF (txt r.2) k 0)] by rw [List.set_append_right _ _ (Nat.le_refl _), Nat.sub_self]; rfl]
    have ka : ∀ a : Int, RtAt (s ++ [SO.ins 20 (rtF (txt r.2) k a)]) s.length (txt r.2) k a := fun a => by
      unfold RtAt
      rw [List.getElem?_append_right (Nat.le_refl _), Nat.sub_self]; rfl
    have k1 : RtAt (s ++ [SO.ins 20 (rtF (txt r.2) k 0)]) s.length (txt r.2) k ((0 : Nat) : Int) := ka 0
    refine ⟨k1.noF rfl, term_r k1 (by omega) (by rw [List.drop_zero, List.append_nil]) h1.2.1 h1.2.2 (fun c hc => by cases hc) ?_⟩
    have k2 : RtAt ((s ++ [SO.ins 20 (rtF (txt r.2) k 0)]).set s.length (.ins 20 (rtF (txt r.2) k ((0 + (txt r.2).length : Nat) : Int)))) s.length (txt r.2) k ((0 + (txt r.2).length : Nat) : Int) := k1.set
    have e2 : (s ++ [SO.ins 20 (rtF (txt r.2) k 0)]).set s.length (.ins 20 (rtF (txt r.2) k ((0 + (txt r.2).length : Nat) : Int))) = s ++ [SO.ins 20 (rtF (txt r.2) k ((0 + (txt r.2).length : Nat) : Int))] := by rw [List.set_append_right _ _ (Nat.le_refl _), Nat.sub_self]; rfl
    rw [e2] at k2 ⊢
    simpa?! only [e_need]
    refine ⟨k2.noF rfl, opt_of (a := .int ((0 + (txt r.2).length : Nat) : Int)) (k2.get rfl) ?_⟩
    simpa?! only [e_need]
    refine opt_of (a := D.str (txt r.2)) rfl ?_
    simpa?! only [e_need]
    refine ⟨by simp, ?_⟩
    refine at_head rfl ?_
    simpa?! only []
    exact q _
  · exact h.elim
def m_read_program : PM := fun ds st Q => match ds with
  | [.str tx] => ∃ rows : List (List Nat × Tm), tx = progX rows ∧ rows ≠ [] ∧ (∀ r ∈ rows, ROk r) ∧ rows.length ≤ 40 ∧ ∀ ext, Q (.d (.tup (rows.map rowT))) (st ++ ext)
  | _ => False
theorem rprog_i {rows : List (List Nat × Tm)} {st : Sto} {Q : C → Sto → Prop} (hn : rows ≠ []) (h : ∀ r ∈ rows, ROk r) (hl : rows.length ≤ 40) (q : ∀ ext, Q (.d (.tup (rows.map rowT))) (st ++ ext)) : m_read_program [.str (progX rows)] st Q := ⟨rows, rfl, hn, h, hl, q⟩
def t_read_program : PTS := sRet (tCallP pTuple (rCons (cLc (iEnumP (rCons (tMeth "str" pSplit (tName 0) (rCons (tD (.str [10])) (rNil))) (rNil))) (gTup 2 (gCons (gName 1) (gCons (gName 2) (gNil)))) (cYes) (tCall0 m_read_row (tCons (tName 2) (tCons (tName 1) (tNil)))) [1, 2]) (rNil)))
abbrev N_read_program : List Str := ["text", "number", "row"]
theorem len_read_program (ds : List D) (s : Sto) (Q : C → Sto → Prop) (h : m_read_program ds s Q) : ds.length = 1 := by
  unfold m_read_program at h
  split at h
  · rfl
  · exact h.elim
theorem p_read_program (ds : List D) (s : Sto) (Q : C → Sto → Prop) (h : m_read_program ds s Q) : t_read_program noX { nx := fun e => Q (.d .non) e.st, rt := fun c e => Q c e.st } ⟨startC N_read_program ds, s⟩ := by
  unfold m_read_program at h
  split at h
  · rename_i tx
    obtain ⟨rows, rfl, hn, h1, hl, q⟩ := h
    have L1 := prog_len2 h1
    have es := prog_spl h1 hn
    unfold t_read_program
    simpa?! only []
    refine ⟨by decide, by omega, ?_⟩
    rw [es]
    have ee : ∀ (l : List (List Nat × Tm)) (k : Nat), (enumF k ((l.map rowX).map D.str)).length = l.length := fun l => by
      induction l with
      | nil => intro k; rfl
      | cons a l ih => intro k; rw [List.map_cons, List.map_cons, enumF, List.length_cons, ih, List.length_cons]
    refine ⟨by rw [ee]; omega, ?_⟩
    refine lcR_st (fun ds acc e => ∃ (pre suf : List (List Nat × Tm)) (ext : Sto), pre ++ suf = rows ∧ ds = enumF pre.length ((suf.map rowX).map D.str) ∧ acc = pre.map rowT ∧ e = ⟨[.d (.str (progX rows)), .un, .un], s ++ ext⟩) ?_ ?_ _ _ _ ⟨[], rows, [], rfl, rfl, rfl, by rw [List.append_nil]⟩
    · rintro acc e ⟨pre, suf, ext, hp, hd, rfl, rfl⟩
      have : suf = [] := by
        cases suf with
        | nil => rfl
        | cons a l => cases hd
      rw [this, List.append_nil] at hp
      subst hp
      simpa?! only []
      exact q _
    · rintro d r acc e ⟨pre, suf, ext, hp, hd, rfl, rfl⟩ K k
      cases suf with
      | nil => cases hd
      | cons a l =>
        rw [List.map_cons, List.map_cons, enumF] at hd
        injection hd with hd1 hd2
        subst hd1 hd2
        have ha := h1 a (by rw [← hp]; simp)
        simpa?! only []
        refine rrow_i ha fun ext2 => ?_
        simpa?! only []
        exact k (rowT a) ⟨[.d (.str (progX rows)), .un, .un], s ++ ext ++ ext2⟩ ⟨pre ++ [a], l, ext ++ ext2, by rw [← hp]; simp, by rw [List.length_append]; rfl, by rw [List.map_append]; rfl, by rw [List.append_assoc]; rfl⟩
  · exact h.elim
end Pu
set_option maxRecDepth 100000
set_option maxHeartbeats 1000000
namespace Pu
open PySem L2
local macro_rules | `(tactic| simpa?! only [$xs,*]) => `(tactic| simp -dsimp only [↓opt_some, ↓br_true, ↓br_false, ↓nameC_d, ↓nameC_own, ↓nameC_dK, ↓nameC_dT, ↓x_name, ↓fzC_d, ↓fzC_own, ↓fzC_dK, ↓fzC_dT, ↓x_fzn, ↓x_fzK, ↓x_fzT, ↓x_fzd, ↓x_fzo, ↓x_rvn, ↓x_rvd, ↓x_rvo, ↓retC_d, ↓retC_own, ↓x_retn, ↓x_retd, ↓x_reto, ↓x_hd, ↓x_ho, ↓x_hn, ↓x_ad, ↓x_ao, ↓x_an, ↓x_set, ↓x_seq, ↓x_next, ↓x_break, ↓x_cont, ↓x_drop, ↓x_ret, ↓x_retN, ↓x_if, ↓x_asg, ↓x_asgG, ↓x_while, ↓x_for, ↓x_2, ↓x_k2ad, ↓x_k2ao, ↓x_k2an, ↓x_k2b, ↓x_k2c, ↓x_1, ↓x_k1c, ↓x_D, ↓bC_b, ↓x_B, ↓x_kBc, ↓x_and, ↓x_kAn, ↓x_or, ↓x_kOr, ↓x_not, ↓x_kNo, ↓x_andV, ↓x_kAV, ↓x_orV, ↓x_kOV, ↓x_notV, ↓x_kNV, ↓x_tif, ↓x_nil, ↓x_kC2, ↓x_cons, ↓x_kC1d, ↓x_kC1o, ↓x_kC1k, ↓x_kC1t, ↓x_kC1n, ↓x_kC3d, ↓x_kC3o, ↓x_kC3k, ↓x_kC3t, ↓x_tup, ↓x_kTu, ↓x_lst, ↓x_kLs, ↓x_rnil, ↓x_kR2, ↓x_rcons, ↓x_kR1d, ↓x_kR1o, ↓x_kR1n, ↓x_callP, ↓x_kCP, ↓x_rvLc, ↓x_rvLn, ↓x_meth, ↓x_kM0d, ↓x_kM0o, ↓x_kM0n, ↓x_kM1, ↓x_kM2, ↓x_kM3, ↓x_meth0, ↓x_mut, ↓x_kU1n, ↓x_kU1d, ↓x_kU2, ↓x_kU3, ↓x_mg, ↓x_ms, ↓x_sl, ↓x_kS0d, ↓x_kS0o, ↓x_kS0n, ↓x_kS1, ↓x_kS2, ↓x_kS3, ↓x_on, ↓iC_i, ↓x_os, ↓x_kOs, ↓x_lc, ↓x_any, ↓x_pure, ↓sC_s, ↓x_rev, ↓x_call, ↓x_kCa, ↓x_gn, ↓x_gnil, ↓x_gcons, ↓x_isi, ↓a_ii, ↓a_ss, ↓a_ll, ↓a_tt, ↓a_I, ↓a_neg, ↓a_mul, ↓a_mulL, ↓a_mulS, ↓a_eq, ↓a_ne, ↓a_lt, ↓a_le, ↓a_gt, ↓a_ge, ↓a_ltS, ↓a_leS, ↓a_inS, ↓a_ninS, ↓a_inL, ↓a_ninL, ↓a_inT, ↓a_ninT, ↓a_ixL, ↓a_ixT, ↓a_ixS, ↓a_ixR, ↓a_ixB, ↓a_slL, ↓a_slT, ↓a_slS, ↓a_lenS, ↓a_lenL, ↓a_lenT, ↓a_lenR, ↓a_join, ↓a_ixof, ↓a_ixofL, ↓a_rng1, ↓a_rng2, ↓a_min2, ↓a_max2, ↓a_lstS, ↓a_lstL, ↓a_lstT, ↓a_int, ↓a_intB, ↓a_isN, ↓x_popAt, ↓x_all, ↓x_anyB, ↓a_isB, ↓a_pop, ↓x_dict0, ↓x_aK, ↓x_kg, ↓x_kgRn, ↓x_kgRf, ↓x_zips, ↓x_ks, ↓x_dg, ↓x_di, ↓x_dpt, ↓x_enum, ↓a_backL, ↓a_backS, ↓a_backT, ↓x_never, ↓a_tupL, ↓a_tupT, ↓x_sort, ↓x_sortS, ↓x_sortP, ↓a_slR, ↓x_zip, ↓x_sum, ↓a_count, ↓augC_i, ↓x_aug, ↓x_par, ↓x_raise, ↓x_callX, ↓x_try, ↓x_subA, ↓x_setN, ↓a_two, ↓x_swIx, ↓x_mkX, ↓x_mk0, ↓x_raise0, ↓a_exB, ↓a_tbl, ↓a_cbl, ↓x_isX, ↓x_xattr, ↓x_dictT0, ↓x_aT, ↓retC_dT, ↓retC_dK, ↓x_retT, ↓x_retK, ↓x_tgg, ↓x_tgRn, ↓x_tgRf, ↓x_tss, ↓x_dgT, ↓x_dptT, ↓x_callT, ↓a_lenTT, ↓a_listT, ↓a_dictT, ↓a_dictK, ↓x_chn, ↓a_mmT, ↓x_sortN, ↓a_lenSS, ↓a_ltT, ↓x_chn3, ↓a_dictN, ↓a_gN, ↓x_gls, ↓x_revT, ↓x_chS, ↓x_ltN, ↓x_try0, ↓x_fld, ↓x_kF, ↓x_kSF, ↓x_sfldZ, ↓x_sfldP, ↓x_kpd, ↓x_kpo, ↓x_kpK, ↓x_kpT, ↓x_kpC, ↓x_kpn, ↓x_2O, ↓x_k2adO, ↓x_k2aoO, ↓x_k2anO, ↓x_k2bO, ↓x_k2cO, ↓x_im, ↓x_kIM, ↓x_make, ↓x_kMk, ↓x_gtN, ↓x_methT, ↓x_kMTd, ↓x_mT1, ↓x_prK, ↓x_ixT, ↓x_prI, ↓x_splitA, ↓x_strI, ↓x_intS, ↓x_fs3, ↓x_f3I, ↓x_zipS, ↓x_parO, ↓x_asgZ, ↓x_asgK, ↓x_gd, ↓x_kGD, ↓x_case, ↓x_imX, ↓x_kIMX, ↓x_lcX, ↓x_ksr, ↓x_msr, ↓x_disp2, ↓x_kD2, ↓x_dgk2, ↓x_kG2, ↓x_clear, rvC_d, rvC_own, consO_s, isTy_s, isTy_l, mgC_own, walk_l, walk_t, walk_s, toR_d, toR_o, items_l, items_t, ok_s, ok_i, ok_b, ok_n, ok_l, ok_t, okL_n, okL_c, e_ss, e_ii, e_bb, e_ll, e_tt, eL_nn, eL_cc, eL_nc, eL_cn, ty_s, ty_i, ty_l, ty_b, kgC_dK, key_i, key_s, kI_eq, kS_eq, oneR_1, walkE_l, walkE_t, walkE_s, ty_t, twoR_2, side_l, side_t, twoD_2, ow_nil, ow_un, ow_d, toR_T, toR_K, tgC_dT, tupK_t, consK_s, keyL_n, keyL_c, fold1, intL_n, consI_s, intL_c, consS_s, strL_n, strL_c, tC_s, m_app, m_ext, m_rev, sline, startC, restE, restC, wipeE, wipeC, plainC, List.getElem?_cons_zero, List.getElem?_cons_succ, List.getD_cons_zero, List.getD_cons_succ, List.set_cons_zero, List.set_cons_succ, List.length_cons, List.length_nil, List.map_cons, List.map_nil, List.replicate_succ, List.replicate_zero, List.cons_append, List.nil_append, Nat.reduceAdd, Nat.reduceMul, Int.reduceAdd, Int.reduceSub, Int.reduceMul, Nat.reduceSub, Nat.reduceLT, Nat.reduceLeDiff, Nat.lt_add_one, Int.reduceNeg, Int.reduceLT, Int.reduceLE, Int.reduceToNat, Int.reducePow, Nat.reducePow, List.flatten_cons, List.flatten_nil, List.append_nil, true_and, and_true, true_or, or_true, eq_self, and_self, decide_true, decide_false, Bool.not_true, Bool.not_false, Bool.not_not, Option.isSome_some, Bool.and_true, Bool.true_and, Bool.and_self, reduceIte, ↓reduceIte, Bool.false_eq_true, ite_self, reduceCtorEq, ne_eq, not_false_eq_true, forall_const, ↓x_gtup, ↓a_repr, ↓x_min1, ↓a_min2S, ↓x_yes, ↓x_ite, x_gnil, walk_l, walk_t, walk_s, $xs,*])
/-- one to three small letters and their contraries -/
def PoolOk (p : List Nat) : Prop := p.length ≤ 6 ∧ IsW p ∧ ∃ a ∈ SM, p.head? = some a
theorem letters_any {P : Nat → Prop} {ys : List D} {ds : List D} (h : All2 (fun _ y => ∃ c, P c ∧ y = .str [c]) ds ys) : ∃ w : List Nat, ys = signs w ∧ w.length = ds.length ∧ ∀ c ∈ w, P c := by
  induction h with
  | nil => exact ⟨[], rfl, rfl, fun c hc => by cases hc⟩
  | cons r _ ih =>
    obtain ⟨c, hc, rfl⟩ := r
    obtain ⟨w, rfl, hl, hw⟩ := ih
    exact ⟨c :: w, rfl, by simp [hl], fun d hd => (List.mem_cons.mp hd).elim (fun z => z ▸ hc) (hw d)⟩
theorem SM_up {c : Nat} (h : c ∈ SM) : c < 128 ∧ IsL (PyProof.Rows.up1 c) := by
  have key : ∀ c ∈ SM, c < 128 ∧ IsL (PyProof.Rows.up1 c) := by decide +kernel
  exact key c h
theorem L_lt {c : Nat} (h : IsL c) : c < 1114112 := by
  unfold IsL at h
  omega
def m_law_pool : PM := fun ds st Q => match ds with
  | [.box] => ∀ p, PoolOk p → Q (.d (.str p)) st
  | _ => False
theorem e_pool {s Q} : m_law_pool [.box] s Q = (∀ p, PoolOk p → Q (.d (.str p)) s) := rfl
def t_law_pool : PTS := sSeq (sAsg 1 (tD (.str SM))) (sSeq (sAsg 2 (tMeth "str" pJoin (tD (.str [])) (rCons (cLc (iPure pRng1 (rCons (t2 (tD (.int 1)) (tCall0 m_law_take (tCons (tName 0) (tCons (tD (.int 3)) (tNil)))) pAdd) (rNil))) (gName 3) (cYes) (t2 (tName 1) (tCall0 m_law_take (tCons (tName 0) (tCons (tD (.int 26)) (tNil)))) pIx) [3]) (rNil)))) (sRet (t2 (tName 2) (tMeth0 "str" (pCase PyProof.Rows.up1) (tName 2)) pAdd)))
abbrev N_law_pool : List Str := ["_law_box_here", "_law_letters", "_law_some", "_law_k"]
theorem len_law_pool (ds : List D) (s : Sto) (Q : C → Sto → Prop) (h : m_law_pool ds s Q) : ds.length = 1 := by
  unfold m_law_pool at h
  split at h
  · rfl
  · exact h.elim
theorem p_law_pool (ds : List D) (s : Sto) (Q : C → Sto → Prop) (h : m_law_pool ds s Q) : t_law_pool noX { nx := fun e => Q (.d .non) e.st, rt := fun c e => Q c e.st } ⟨startC N_law_pool ds, s⟩ := by
  unfold m_law_pool at h
  split at h
  · have q := h
    unfold t_law_pool
    simpa?! only [e_take]
    intro d d0 d1
    refine ⟨⟨by omega, by omega⟩, by rw [rngI_length]; omega, ?_⟩
    refine lcH_rel (fun _ y => ∃ c, c ∈ SM ∧ y = .str [c]) (fun x hx K k => ?_) fun ys hys => ?_
    · simpa?! only [e_take]
      intro z z0 z1
      refine opt_of (SM_at z0 z1) ?_
      simpa?! only []
      exact k _ ⟨_, SM_mem.mpr ⟨by omega, by omega⟩, rfl⟩
    obtain ⟨w, rfl, hl, hw⟩ := letters_any hys
    rw [rngI_length] at hl
    simpa?! only [strL_signs, joinN_signs]
    refine ⟨len_signs' (by omega), ?_⟩
    have hU : ∀ c ∈ w, c < 128 ∧ IsL (PyProof.Rows.up1 c) := fun c hc => SM_up (hw c hc)
    refine ⟨List.all_eq_true.mpr fun c hc => decide_eq_true (hU c hc).1, by omega, fun c hc => L_lt (hU c hc).2, ?_⟩
    have hne : w ≠ [] := fun z => by rw [z] at hl; simp at hl; omega
    refine ⟨by rw [List.length_map]; omega, q _ ⟨by rw [List.length_append, List.length_map]; omega, ?_, ?_⟩⟩
    · intro c hc
      rcases List.mem_append.mp hc with h | h
      · exact SM_L (hw c h)
      · obtain ⟨b, hb, rfl⟩ := List.mem_map.mp h
        exact (hU b hb).2
    · cases w with
      | nil => exact absurd rfl hne
      | cons a w => exact ⟨a, hw a (by simp), rfl⟩
  · exact h.elim
def m_law_walk : PM := fun ds st Q => match ds with
  | [.box, .str p] => PoolOk p ∧ ∀ w, IsW w → w.length ≤ 12 → Q (.d (.str w)) st
  | _ => False
theorem e_walk {p s Q} : m_law_walk [.box, .str p] s Q = (PoolOk p ∧ ∀ w, IsW w → w.length ≤ 12 → Q (.d (.str w)) s) := rfl
def t_law_walk : PTS := sSeq (sAsg 2 (tName 1)) (sSeq (sIf (tB (t2 (tCall0 m_law_take (tCons (tName 0) (tCons (tD (.int 6)) (tNil)))) (tD (.int 0)) pEq)) (sAsg 2 (tD (.str SMCP))) (sNext)) (sRet (tMeth "str" pJoin (tD (.str [])) (rCons (cLc (iPure pRng1 (rCons (tCall0 m_law_take (tCons (tName 0) (tCons (tD (.int 13)) (tNil)))) (rNil))) (gName 3) (cYes) (t2 (tName 2) (tCall0 m_law_take (tCons (tName 0) (tCons (tCallP pLen (rCons (tName 2) (rNil))) (tNil)))) pIx) [3]) (rNil)))))
abbrev N_law_walk : List Str := ["_law_box_here", "_law_pool_here", "_law_some", "_law_k"]
def wk_ret : PTS := sRet (tMeth "str" pJoin (tD (.str [])) (rCons (cLc (iPure pRng1 (rCons (tCall0 m_law_take (tCons (tName 0) (tCons (tD (.int 13)) (tNil)))) (rNil))) (gName 3) (cYes) (t2 (tName 2) (tCall0 m_law_take (tCons (tName 0) (tCons (tCallP pLen (rCons (tName 2) (rNil))) (tNil)))) pIx) [3]) (rNil)))
theorem len_law_walk (ds : List D) (s : Sto) (Q : C → Sto → Prop) (h : m_law_walk ds s Q) : ds.length = 2 := by
  unfold m_law_walk at h
  split at h
  · rfl
  · exact h.elim
theorem p_law_walk (ds : List D) (s : Sto) (Q : C → Sto → Prop) (h : m_law_walk ds s Q) : t_law_walk noX { nx := fun e => Q (.d .non) e.st, rt := fun c e => Q c e.st } ⟨startC N_law_walk ds, s⟩ := by
  unfold m_law_walk at h
  split at h
  · rename_i p
    obtain ⟨hp, q⟩ := h
    have R : ∀ u : List Nat, u ≠ [] → u.length ≤ 52 → IsW u → ∀ P : PEn, P.rt = (fun c e => Q c e.st) → wk_ret noX P ⟨[.d .box, .d (.str p), .d (.str u), .un], s⟩ := fun u h1 h2 h3 P hP => by
      have h4 : 0 < u.length := List.length_pos_iff.mpr h1
      unfold wk_ret
      simpa?! only [e_take]
      intro d d0 d1
      refine ⟨⟨by omega, by omega⟩, by rw [rngI_length]; omega, ?_⟩
      refine lcH_rel (fun _ y => ∃ c, c ∈ u ∧ y = .str [c]) (fun x hx K k => ?_) fun ys hys => ?_
      · simpa?! only [e_take]
        refine ⟨by omega, by omega, fun z z0 z1 => ?_⟩
        obtain ⟨h, e⟩ := atI_ok z0 z1
        refine opt_of e ?_
        simpa?! only []
        exact k _ ⟨_, List.getElem_mem h, rfl⟩
      obtain ⟨w, rfl, hl, hw⟩ := letters_any hys
      rw [rngI_length] at hl
      simpa?! only [strL_signs, joinN_signs]
      refine ⟨len_signs' (by omega), ?_⟩
      rw [hP]
      exact q w (fun c hc => h3 c (hw c hc)) (by omega)
    generalize hQ : wk_ret = RR at R
    have hQ' : RR = _ := hQ.symm
    unfold wk_ret at hQ'
    unfold t_law_walk
    rw [← hQ']
    simpa?! only [e_take]
    intro d d0 d1
    refine br_intro (fun b => ?_) (fun b => ?_)
    · simpa?! only []
      exact R SMCP (by decide) (by decide) (fun c => SMCP_L) _ rfl
    · simpa?! only []
      obtain ⟨p1, p2, a, _, p3⟩ := hp
      exact R p (fun z => by rw [z] at p3; cases p3) (by omega) p2 _ rfl
  · exact h.elim
/-- a term of at most so many levels -/
def m_law_term (j : Nat) : PM := fun ds st Q => match ds with
  | [.box, .lst ns, .str p, .int room, .int deep] => ∃ names : List (List Nat), ns = names.map D.str ∧ names.length ≤ 60 ∧ PoolOk p ∧ 1 ≤ room ∧ room ≤ 12 ∧ 0 ≤ deep ∧ deep < j ∧ deep ≤ 5 ∧ ∀ t, Wf names t → t.dp ≤ deep.toNat → Q (.d (tmD t)) st
  | _ => False
theorem term_i {j : Nat} {names : List (List Nat)} {p : List Nat} {room deep : Int} {st : Sto} {Q : C → Sto → Prop} (h1 : names.length ≤ 60) (h2 : PoolOk p) (h3 : 1 ≤ room) (h4 : room ≤ 12) (h5 : 0 ≤ deep) (h6 : deep < j) (h7 : deep ≤ 5) (q : ∀ t, Wf names t → t.dp ≤ deep.toNat → Q (.d (tmD t)) st) : m_law_term j [.box, .lst (names.map D.str), .str p, .int room, .int deep] st Q := ⟨names, rfl, h1, h2, h3, h4, h5, h6, h7, q⟩
theorem no_law_term (ds : List D) (s : Sto) (Q : C → Sto → Prop) : ¬ m_law_term 0 ds s Q := fun h => by
  unfold m_law_term at h
  split at h
  · obtain ⟨_, _, _, _, _, _, h5, h6, _⟩ := h; omega
  · exact h
def t_law_term (j : Nat) : PTS := sSeq (sAsg 5 (tCall0 m_law_take (tCons (tName 0) (tCons (tD (.int 8)) (tNil))))) (sSeq (sIf (tOr (tB (t2 (tName 3) (tD (.int 2)) pLt)) (tOr (tB (t2 (tName 4) (tD (.int 1)) pLt)) (tB (t2 (tName 5) (tD (.int 2)) pLt)))) (sSeq (sIf (tAnd (tB (t2 (tName 1) (tLst (tNil)) pNe)) (tB (t2 (tCall0 m_law_take (tCons (tName 0) (tCons (tD (.int 2)) (tNil)))) (tD (.int 0)) pEq))) (sRet (tTup (tCons (tD (.str [110, 97, 109, 101])) (tCons (t2 (tName 1) (tCall0 m_law_take (tCons (tName 0) (tCons (tCallP pLen (rCons (tName 1) (rNil))) (tNil)))) pIx) (tNil))))) (sNext)) (sRet (tTup (tCons (tD (.str [119, 97, 108, 107])) (tCons (tCall0 m_law_walk (tCons (tName 0) (tCons (tName 2) (tNil)))) (tNil)))))) (sNext)) (sSeq (sIf (tOr (tB (t2 (tName 5) (tD (.int 2)) pEq)) (tAnd (tB (t2 (tName 3) (tD (.int 3)) pLt)) (tB (t2 (tName 5) (tD (.int 3)) pGt)))) (sRet (tTup (tCons (tD (.str [98, 97, 99, 107])) (tCons (tCall0 (m_law_term j) (tCons (tName 0) (tCons (tName 1) (tCons (tName 2) (tCons (t2 (tName 3) (tD (.int 1)) pSub) (tCons (t2 (tName 4) (tD (.int 1)) pSub) (tNil))))))) (tNil))))) (sNext)) (sSeq (sIf (tB (t2 (tName 5) (tD (.int 3)) pEq)) (sSeq (sAsg 10 (tCall0 m_law_take (tCons (tName 0) (tCons (tD (.int 7)) (tNil))))) (sRet (tTup (tCons (tD (.str [97, 103, 97, 105, 110])) (tCons (tName 10) (tCons (tCall0 (m_law_term j) (tCons (tName 0) (tCons (tName 1) (tCons (tName 2) (tCons (t2 (tName 3) (tD (.int 1)) pSub) (tCons (t2 (tName 4) (tD (.int 1)) pSub) (tNil))))))) (tNil))))))) (sNext)) (sSeq (sAsg 6 (t2 (tD (.int 1)) (tCall0 m_law_take (tCons (tName 0) (tCons (t2 (tName 3) (tD (.int 2)) pSub) (tNil)))) pAdd)) (sSeq (sAsg 7 (t2 (tLst (tCons (t2 (tD (.str SM)) (tCall0 m_law_take (tCons (tName 0) (tCons (tD (.int 26)) (tNil)))) pIx) (tCons (t2 (tName 2) (tD (.int 0)) pIx) (tNil)))) (tCall0 m_law_take (tCons (tName 0) (tCons (tD (.int 2)) (tNil)))) pIx)) (sSeq (sAsg 8 (tCall0 (m_law_term j) (tCons (tName 0) (tCons (tName 1) (tCons (tName 2) (tCons (tName 6) (tCons (t2 (tName 4) (tD (.int 1)) pSub) (tNil)))))))) (sSeq (sAsg 9 (tCall0 (m_law_term j) (tCons (tName 0) (tCons (tName 1) (tCons (tName 2) (tCons (t2 (t2 (tName 3) (tD (.int 1)) pSub) (tName 6) pSub) (tCons (t2 (tName 4) (tD (.int 1)) pSub) (tNil)))))))) (sSeq (sIf (tB (t2 (tName 5) (tD (.int 5)) pGt)) (sRet (tTup (tCons (tD (.str [102, 111, 114])) (tCons (tName 7) (tCons (tName 8) (tCons (tName 9) (tNil))))))) (sNext)) (sRet (tTup (tCons (tD (.str [116, 104, 101, 110])) (tCons (tName 8) (tCons (tName 9) (tNil))))))))))))))
abbrev N_law_term : List Str := ["_law_box_here", "_law_known", "_law_pool_here", "_law_room", "_law_deep", "_law_form", "_law_share", "_law_letter", "_law_one", "_law_other_here", "_law_often"]
def tm_leaf : PTS := sSeq (sIf (tAnd (tB (t2 (tName 1) (tLst (tNil)) pNe)) (tB (t2 (tCall0 m_law_take (tCons (tName 0) (tCons (tD (.int 2)) (tNil)))) (tD (.int 0)) pEq))) (sRet (tTup (tCons (tD (.str [110, 97, 109, 101])) (tCons (t2 (tName 1) (tCall0 m_law_take (tCons (tName 0) (tCons (tCallP pLen (rCons (tName 1) (rNil))) (tNil)))) pIx) (tNil))))) (sNext)) (sRet (tTup (tCons (tD (.str [119, 97, 108, 107])) (tCons (tCall0 m_law_walk (tCons (tName 0) (tCons (tName 2) (tNil)))) (tNil)))))
def tm_rest (j : Nat) : PTS := sSeq (sIf (tOr (tB (t2 (tName 5) (tD (.int 2)) pEq)) (tAnd (tB (t2 (tName 3) (tD (.int 3)) pLt)) (tB (t2 (tName 5) (tD (.int 3)) pGt)))) (sRet (tTup (tCons (tD (.str [98, 97, 99, 107])) (tCons (tCall0 (m_law_term j) (tCons (tName 0) (tCons (tName 1) (tCons (tName 2) (tCons (t2 (tName 3) (tD (.int 1)) pSub) (tCons (t2 (tName 4) (tD (.int 1)) pSub) (tNil))))))) (tNil))))) (sNext)) (sSeq (sIf (tB (t2 (tName 5) (tD (.int 3)) pEq)) (sSeq (sAsg 10 (tCall0 m_law_take (tCons (tName 0) (tCons (tD (.int 7)) (tNil))))) (sRet (tTup (tCons (tD (.str [97, 103, 97, 105, 110])) (tCons (tName 10) (tCons (tCall0 (m_law_term j) (tCons (tName 0) (tCons (tName 1) (tCons (tName 2) (tCons (t2 (tName 3) (tD (.int 1)) pSub) (tCons (t2 (tName 4) (tD (.int 1)) pSub) (tNil))))))) (tNil))))))) (sNext)) (sSeq (sAsg 6 (t2 (tD (.int 1)) (tCall0 m_law_take (tCons (tName 0) (tCons (t2 (tName 3) (tD (.int 2)) pSub) (tNil)))) pAdd)) (sSeq (sAsg 7 (t2 (tLst (tCons (t2 (tD (.str SM)) (tCall0 m_law_take (tCons (tName 0) (tCons (tD (.int 26)) (tNil)))) pIx) (tCons (t2 (tName 2) (tD (.int 0)) pIx) (tNil)))) (tCall0 m_law_take (tCons (tName 0) (tCons (tD (.int 2)) (tNil)))) pIx)) (sSeq (sAsg 8 (tCall0 (m_law_term j) (tCons (tName 0) (tCons (tName 1) (tCons (tName 2) (tCons (tName 6) (tCons (t2 (tName 4) (tD (.int 1)) pSub) (tNil)))))))) (sSeq (sAsg 9 (tCall0 (m_law_term j) (tCons (tName 0) (tCons (tName 1) (tCons (tName 2) (tCons (t2 (t2 (tName 3) (tD (.int 1)) pSub) (tName 6) pSub) (tCons (t2 (tName 4) (tD (.int 1)) pSub) (tNil)))))))) (sSeq (sIf (tB (t2 (tName 5) (tD (.int 5)) pGt)) (sRet (tTup (tCons (tD (.str [102, 111, 114])) (tCons (tName 7) (tCons (tName 8) (tCons (tName 9) (tNil))))))) (sNext)) (sRet (tTup (tCons (tD (.str [116, 104, 101, 110])) (tCons (tName 8) (tCons (tName 9) (tNil))))))))))))
theorem len_law_term (j : Nat) (ds : List D) (s : Sto) (Q : C → Sto → Prop) (h : m_law_term j ds s Q) : ds.length = 5 := by
  unfold m_law_term at h
  split at h
  · rfl
  · exact h.elim
theorem at_names {names : List (List Nat)} {d : Int} (h0 : 0 ≤ d) (h1 : d < names.length) : ∃ n ∈ names, atI (names.map D.str) d = some (.str n) := by
  obtain ⟨i, rfl⟩ := Int.eq_ofNat_of_zero_le h0
  have hi : i < names.length := by omega
  exact ⟨names[i], List.getElem_mem hi, atI_nat (by rw [List.getElem?_map, List.getElem?_eq_getElem hi]; rfl)⟩
theorem strs_nil {names : List (List Nat)} : D.eqL (names.map D.str) [] = decide (names = []) := by cases names <;> rfl
theorem tm_leaf_ok {names : List (List Nat)} {p : List Nat} {c3 c4 c5 c6 c7 c8 c9 c10 : C} {s : Sto} {P : PEn} (h1 : names.length ≤ 60) (h2 : PoolOk p) (q : ∀ t, Wf names t → t.dp = 0 → ∀ e : En, e.st = s → P.rt (.d (tmD t)) e) : tm_leaf noX P ⟨[.d .box, .d (.lst (names.map D.str)), .d (.str p), c3, c4, c5, c6, c7, c8, c9, c10], s⟩ := by
  have W : ∀ (e : En), e.st = s → (∀ w, IsW w → w.length ≤ 12 → P.rt (.d (.tup [.str kWalk, .str w])) e) := fun e he w h3 h4 => q (.walk w) ⟨h3, by omega⟩ rfl e he
  unfold tm_leaf
  simpa?! only [e_take]
  refine ⟨okL_strs _ _, ?_⟩
  rw [strs_nil]
  refine br_intro (fun b => ?_) (fun b => ?_)
  · have b : names ≠ [] := by simpa using b
    have hl : 0 < names.length := List.length_pos_iff.mpr b
    simpa?! only [e_take]
    intro d d0 d1
    refine br_intro (fun b => ?_) (fun b => ?_)
    · simpa?! only [e_take]
      rw [List.length_map]
      refine ⟨by omega, by omega, fun z z0 z1 => ?_⟩
      obtain ⟨n, hn, en⟩ := at_names z0 z1
      refine opt_of en ?_
      simpa?! only []
      exact q (.name n) hn rfl _ rfl
    · simpa?! only [e_walk]
      exact ⟨h2, fun w h3 h4 => W _ rfl w h3 h4⟩
  · simpa?! only [e_walk]
    exact ⟨h2, fun w h3 h4 => W _ rfl w h3 h4⟩
theorem tm_rest_ok {j : Nat} {names : List (List Nat)} {p : List Nat} {room deep form : Int} {c6 c7 c8 c9 c10 : C} {s : Sto} {Q : C → Sto → Prop} (h1 : names.length ≤ 60) (h2 : PoolOk p) (h3 : 2 ≤ room) (h4 : room ≤ 12) (h5 : 1 ≤ deep) (h6 : deep < j + 1) (h7 : deep ≤ 5) (h8 : 2 ≤ form) (q : ∀ t, Wf names t → t.dp ≤ deep.toNat → Q (.d (tmD t)) s) : tm_rest j noX { nx := fun e => Q (.d .non) e.st, rt := fun c e => Q c e.st } ⟨[.d .box, .d (.lst (names.map D.str)), .d (.str p), .d (.int room), .d (.int deep), .d (.int form), c6, c7, c8, c9, c10], s⟩ := by
  have B : ∀ (r : Int), 1 ≤ r → r ≤ 12 → ∀ Q' : C → Sto → Prop, (∀ t, Wf names t → t.dp ≤ (deep - 1).toNat → Q' (.d (tmD t)) s) → m_law_term j [.box, .lst (names.map D.str), .str p, .int r, .int (deep - 1)] s Q' := fun r r1 r2 Q' h => term_i h1 h2 r1 r2 (by omega) (by omega) (by omega) h
  obtain ⟨p1, p2, a, p3, p4⟩ := h2
  have pw : (a : Nat) ∈ SM := p3
  have hd : (deep - 1).toNat + 1 = deep.toNat := by omega
  have bk : ∀ t, Wf names t → t.dp ≤ (deep - 1).toNat → Q (.d (.tup [.str kBack, tmD t])) s := fun t w dp => q (.back t) w (by simp only [Tm.dp]; omega)
  unfold tm_rest
  simpa?! only []
  refine br_intro (fun b => ?_) (fun b => ?_)
  · simpa?! only []
    refine B _ (by omega) (by omega) _ fun t w dp => ?_
    simpa?! only []
    exact bk t w dp
  simpa?! only []
  refine br_intro (fun b2 => ?_) (fun b2 => ?_)
  · have b2 : room < 3 := of_decide_eq_true b2
    simpa?! only []
    refine br_intro (fun b3 => ?_) (fun b3 => ?_)
    · simpa?! only []
      refine B _ (by omega) (by omega) _ fun t w dp => ?_
      simpa?! only []
      exact bk t w dp
    · have b3 := of_decide_eq_false b3
      have b := of_decide_eq_false b
      have f3 : form = 3 := by omega
      subst f3
      simpa?! only [e_take]
      intro f f0 f1
      obtain ⟨f, rfl⟩ := Int.eq_ofNat_of_zero_le f0
      refine B _ (by omega) (by omega) _ fun t w dp => ?_
      simpa?! only []
      exact q (.again f t) ⟨by omega, w⟩ (by simp only [Tm.dp]; omega)
  have b2 := of_decide_eq_false b2
  simpa?! only []
  refine br_intro (fun b3 => ?_) (fun b3 => ?_)
  · have f3 : form = 3 := of_decide_eq_true b3
    subst f3
    simpa?! only [e_take]
    intro f f0 f1
    obtain ⟨f, rfl⟩ := Int.eq_ofNat_of_zero_le f0
    refine B _ (by omega) (by omega) _ fun t w dp => ?_
    simpa?! only []
    exact q (.again f t) ⟨by omega, w⟩ (by simp only [Tm.dp]; omega)
  simpa?! only [e_take]
  refine ⟨by omega, by omega, fun sh s0 s1 => ?_⟩
  intro l l0 l1
  refine opt_of (SM_at l0 l1) ?_
  simpa?! only []
  refine at_head p4 ?_
  simpa?! only [e_take]
  intro u u0 u1
  have fin : ∀ x, x ∈ SM → ∀ t1 t2, Wf names t1 → Wf names t2 → t1.dp ≤ (deep - 1).toNat → t2.dp ≤ (deep - 1).toNat → Q (.d (.tup [.str kFor, .str [x], tmD t1, tmD t2])) s ∧ Q (.d (.tup [.str kThen, tmD t1, tmD t2])) s := fun x hx t1 t2 w1 w2 d1 d2 =>
    ⟨q (.fr x t1 t2) ⟨hx, w1, w2⟩ (by simp only [Tm.dp]; omega), q (.thn t1 t2) ⟨w1, w2⟩ (by simp only [Tm.dp]; omega)⟩
  have eU : ∃ x ∈ SM, atI [D.str [97 + l.toNat], D.str [a]] u = some (.str [x]) := by
    have : u = 0 ∨ u = 1 := by omega
    rcases this with rfl | rfl
    · exact ⟨_, SM_mem.mpr ⟨by omega, by omega⟩, rfl⟩
    · exact ⟨a, p3, rfl⟩
  obtain ⟨x, hx, eU⟩ := eU
  refine opt_of eU ?_
  simpa?! only []
  refine B _ (by omega) (by omega) _ fun t1 w1 d1 => ?_
  simpa?! only []
  refine B _ (by omega) (by omega) _ fun t2 w2 d2 => ?_
  simpa?! only []
  refine br_intro (fun b4 => ?_) (fun b4 => ?_)
  · simpa?! only []
    exact (fin x hx t1 t2 w1 w2 d1 d2).1
  · simpa?! only []
    exact (fin x hx t1 t2 w1 w2 d1 d2).2
theorem p_law_term (j : Nat) (ds : List D) (s : Sto) (Q : C → Sto → Prop) (h : m_law_term (j + 1) ds s Q) : t_law_term j noX { nx := fun e => Q (.d .non) e.st, rt := fun c e => Q c e.st } ⟨startC N_law_term ds, s⟩ := by
  unfold m_law_term at h
  split at h
  · rename_i ns p room deep
    obtain ⟨names, rfl, h1, h2, h3, h4, h5, h6, h7, q⟩ := h
    have L := @tm_leaf_ok names p (.d (.int room)) (.d (.int deep))
    have R := fun (form : Int) (c6 c7 c8 c9 c10 : C) (h3 : 2 ≤ room) (h5 : 1 ≤ deep) (h8 : 2 ≤ form) => tm_rest_ok (j := j) (names := names) (p := p) (room := room) (deep := deep) (form := form) (c6 := c6) (c7 := c7) (c8 := c8) (c9 := c9) (c10 := c10) (s := s) (Q := Q) h1 h2 h3 h4 h5 (by omega) h7 h8 q
    generalize hA : tm_leaf = A at L
    have hA' : A = _ := hA.symm
    unfold tm_leaf at hA'
    generalize hR : tm_rest j = B at R
    have hR' : B = _ := hR.symm
    unfold tm_rest at hR'
    unfold t_law_term
    rw [← hA', ← hR']
    simpa?! only [e_take]
    intro f f0 f1
    have L1 : ∀ P : PEn, P.rt = (fun c e => Q c e.st) → A noX P ⟨[.d .box, .d (.lst (names.map D.str)), .d (.str p), .d (.int room), .d (.int deep), .d (.int f), .un, .un, .un, .un, .un], s⟩ := fun P hP => L h1 h2 fun t w dp e he => by rw [hP]; show Q _ e.st; rw [he]; exact q t w (by omega)
    refine br_intro (fun b => ?_) (fun b => ?_)
    · simpa?! only []
      exact L1 _ rfl
    have b := of_decide_eq_false b
    refine br_intro (fun b2 => ?_) (fun b2 => ?_)
    · simpa?! only []
      exact L1 _ rfl
    have b2 := of_decide_eq_false b2
    refine br_intro (fun b3 => ?_) (fun b3 => ?_)
    · simpa?! only []
      exact L1 _ rfl
    have b3 := of_decide_eq_false b3
    simpa?! only []
    exact R f _ _ _ _ _ (by omega) (by omega) (by omega)
  · exact h.elim
end Pu
set_option maxRecDepth 100000
set_option maxHeartbeats 1000000
namespace Pu
open PySem L2
local macro_rules | `(tactic| simpa?! only [$xs,*]) => `(tactic| simp -dsimp only [↓opt_some, ↓br_true, ↓br_false, ↓nameC_d, ↓nameC_own, ↓nameC_dK, ↓nameC_dT, ↓x_name, ↓fzC_d, ↓fzC_own, ↓fzC_dK, ↓fzC_dT, ↓x_fzn, ↓x_fzK, ↓x_fzT, ↓x_fzd, ↓x_fzo, ↓x_rvn, ↓x_rvd, ↓x_rvo, ↓retC_d, ↓retC_own, ↓x_retn, ↓x_retd, ↓x_reto, ↓x_hd, ↓x_ho, ↓x_hn, ↓x_ad, ↓x_ao, ↓x_an, ↓x_set, ↓x_seq, ↓x_next, ↓x_break, ↓x_cont, ↓x_drop, ↓x_ret, ↓x_retN, ↓x_if, ↓x_asg, ↓x_asgG, ↓x_while, ↓x_for, ↓x_2, ↓x_k2ad, ↓x_k2ao, ↓x_k2an, ↓x_k2b, ↓x_k2c, ↓x_1, ↓x_k1c, ↓x_D, ↓bC_b, ↓x_B, ↓x_kBc, ↓x_and, ↓x_kAn, ↓x_or, ↓x_kOr, ↓x_not, ↓x_kNo, ↓x_andV, ↓x_kAV, ↓x_orV, ↓x_kOV, ↓x_notV, ↓x_kNV, ↓x_tif, ↓x_nil, ↓x_kC2, ↓x_cons, ↓x_kC1d, ↓x_kC1o, ↓x_kC1k, ↓x_kC1t, ↓x_kC1n, ↓x_kC3d, ↓x_kC3o, ↓x_kC3k, ↓x_kC3t, ↓x_tup, ↓x_kTu, ↓x_lst, ↓x_kLs, ↓x_rnil, ↓x_kR2, ↓x_rcons, ↓x_kR1d, ↓x_kR1o, ↓x_kR1n, ↓x_callP, ↓x_kCP, ↓x_rvLc, ↓x_rvLn, ↓x_meth, ↓x_kM0d, ↓x_kM0o, ↓x_kM0n, ↓x_kM1, ↓x_kM2, ↓x_kM3, ↓x_meth0, ↓x_mut, ↓x_kU1n, ↓x_kU1d, ↓x_kU2, ↓x_kU3, ↓x_mg, ↓x_ms, ↓x_sl, ↓x_kS0d, ↓x_kS0o, ↓x_kS0n, ↓x_kS1, ↓x_kS2, ↓x_kS3, ↓x_on, ↓iC_i, ↓x_os, ↓x_kOs, ↓x_lc, ↓x_any, ↓x_pure, ↓sC_s, ↓x_rev, ↓x_call, ↓x_kCa, ↓x_gn, ↓x_gnil, ↓x_gcons, ↓x_isi, ↓a_ii, ↓a_ss, ↓a_ll, ↓a_tt, ↓a_I, ↓a_neg, ↓a_mul, ↓a_mulL, ↓a_mulS, ↓a_eq, ↓a_ne, ↓a_lt, ↓a_le, ↓a_gt, ↓a_ge, ↓a_ltS, ↓a_leS, ↓a_inS, ↓a_ninS, ↓a_inL, ↓a_ninL, ↓a_inT, ↓a_ninT, ↓a_ixL, ↓a_ixT, ↓a_ixS, ↓a_ixR, ↓a_ixB, ↓a_slL, ↓a_slT, ↓a_slS, ↓a_lenS, ↓a_lenL, ↓a_lenT, ↓a_lenR, ↓a_join, ↓a_ixof, ↓a_ixofL, ↓a_rng1, ↓a_rng2, ↓a_min2, ↓a_max2, ↓a_lstS, ↓a_lstL, ↓a_lstT, ↓a_int, ↓a_intB, ↓a_isN, ↓x_popAt, ↓x_all, ↓x_anyB, ↓a_isB, ↓a_pop, ↓x_dict0, ↓x_aK, ↓x_kg, ↓x_kgRn, ↓x_kgRf, ↓x_zips, ↓x_ks, ↓x_dg, ↓x_di, ↓x_dpt, ↓x_enum, ↓a_backL, ↓a_backS, ↓a_backT, ↓x_never, ↓a_tupL, ↓a_tupT, ↓x_sort, ↓x_sortS, ↓x_sortP, ↓a_slR, ↓x_zip, ↓x_sum, ↓a_count, ↓augC_i, ↓x_aug, ↓x_par, ↓x_raise, ↓x_callX, ↓x_try, ↓x_subA, ↓x_setN, ↓a_two, ↓x_swIx, ↓x_mkX, ↓x_mk0, ↓x_raise0, ↓a_exB, ↓a_tbl, ↓a_cbl, ↓x_isX, ↓x_xattr, ↓x_dictT0, ↓x_aT, ↓retC_dT, ↓retC_dK, ↓x_retT, ↓x_retK, ↓x_tgg, ↓x_tgRn, ↓x_tgRf, ↓x_tss, ↓x_dgT, ↓x_dptT, ↓x_callT, ↓a_lenTT, ↓a_listT, ↓a_dictT, ↓a_dictK, ↓x_chn, ↓a_mmT, ↓x_sortN, ↓a_lenSS, ↓a_ltT, ↓x_chn3, ↓a_dictN, ↓a_gN, ↓x_gls, ↓x_revT, ↓x_chS, ↓x_ltN, ↓x_try0, ↓x_fld, ↓x_kF, ↓x_kSF, ↓x_sfldZ, ↓x_sfldP, ↓x_kpd, ↓x_kpo, ↓x_kpK, ↓x_kpT, ↓x_kpC, ↓x_kpn, ↓x_2O, ↓x_k2adO, ↓x_k2aoO, ↓x_k2anO, ↓x_k2bO, ↓x_k2cO, ↓x_im, ↓x_kIM, ↓x_make, ↓x_kMk, ↓x_gtN, ↓x_methT, ↓x_kMTd, ↓x_mT1, ↓x_prK, ↓x_ixT, ↓x_prI, ↓x_splitA, ↓x_strI, ↓x_intS, ↓x_fs3, ↓x_f3I, ↓x_zipS, ↓x_parO, ↓x_asgZ, ↓x_asgK, ↓x_gd, ↓x_kGD, ↓x_case, ↓x_imX, ↓x_kIMX, ↓x_lcX, ↓x_ksr, ↓x_msr, ↓x_disp2, ↓x_kD2, ↓x_dgk2, ↓x_kG2, ↓x_clear, ↓x_kin, ↓x_kKI, ↓x_khas, ↓x_kKH, ↓x_igt, ↓x_izg, ↓x_kIG, ↓x_split1, ↓x_strAi, ↓x_strAs, rvC_d, rvC_own, consO_s, isTy_s, isTy_l, mgC_own, walk_l, walk_t, walk_s, toR_d, toR_o, items_l, items_t, ok_s, ok_i, ok_b, ok_n, ok_l, ok_t, okL_n, okL_c, e_ss, e_ii, e_bb, e_ll, e_tt, eL_nn, eL_cc, eL_nc, eL_cn, ty_s, ty_i, ty_l, ty_b, kgC_dK, key_i, key_s, kI_eq, kS_eq, oneR_1, walkE_l, walkE_t, walkE_s, ty_t, twoR_2, side_l, side_t, twoD_2, ow_nil, ow_un, ow_d, toR_T, toR_K, tgC_dT, tupK_t, consK_s, keyL_n, keyL_c, fold1, intL_n, consI_s, intL_c, consS_s, strL_n, strL_c, tC_s, m_app, m_ext, m_rev, sline, startC, restE, restC, wipeE, wipeC, plainC, List.getElem?_cons_zero, List.getElem?_cons_succ, List.getD_cons_zero, List.getD_cons_succ, List.set_cons_zero, List.set_cons_succ, List.length_cons, List.length_nil, List.map_cons, List.map_nil, List.replicate_succ, List.replicate_zero, List.cons_append, List.nil_append, Nat.reduceAdd, Nat.reduceMul, Int.reduceAdd, Int.reduceSub, Int.reduceMul, Nat.reduceSub, Nat.reduceLT, Nat.reduceLeDiff, Nat.lt_add_one, Int.reduceNeg, Int.reduceLT, Int.reduceLE, Int.reduceToNat, Int.reducePow, Nat.reducePow, List.flatten_cons, List.flatten_nil, List.append_nil, true_and, and_true, true_or, or_true, eq_self, and_self, decide_true, decide_false, Bool.not_true, Bool.not_false, Bool.not_not, Option.isSome_some, Bool.and_true, Bool.true_and, Bool.and_self, reduceIte, ↓reduceIte, Bool.false_eq_true, ite_self, reduceCtorEq, ne_eq, not_false_eq_true, forall_const, ↓x_gtup, ↓a_repr, ↓x_min1, ↓a_min2S, ↓x_yes, ↓x_ite, x_gnil, walk_l, walk_t, walk_s, $xs,*])
/-- data of tuples, texts and numbers, at most so deep -/
def PlD : Nat → D → Prop
  | 0, _ => False
  | j + 1, .tup ds => (∀ d ∈ ds, PlD j d ∧ isPr d = false) ∧ ds.length ≤ 100
  | _ + 1, .str _ => True
  | _ + 1, .int _ => True
  | _ + 1, _ => False
def m_law_alike (j : Nat) : PM := fun ds st Q => match ds with
  | [a, b] => a = b ∧ PlD j a ∧ Q (.d (.bl true)) st
  | _ => False
theorem alike_i {j : Nat} {a : D} {st : Sto} {Q : C → Sto → Prop} (h : PlD j a) (q : Q (.d (.bl true)) st) : m_law_alike j [a, a] st Q := ⟨rfl, h, q⟩
theorem no_law_alike (ds : List D) (s : Sto) (Q : C → Sto → Prop) : ¬ m_law_alike 0 ds s Q := fun h => by
  unfold m_law_alike at h
  split at h
  · exact h.2.1
  · exact h
def t_law_alike (j : Nat) : PTS := sSeq (sIf (tB (tIsi "tuple" (tName 1))) (sSeq (sIf (tOr (tNot (tB (tIsi "tuple" (tName 0)))) (tB (t2 (tCallP pLen (rCons (tName 0) (rNil))) (tCallP pLen (rCons (tName 1) (rNil))) pNe))) (sRet (tD (.bl false))) (sNext)) (sRet (tCallP pAll (rCons (cLc (iZipP (rCons (tName 0) (rCons (tName 1) (rNil)))) (gTup 2 (gCons (gName 2) (gCons (gName 3) (gNil)))) (cYes) (tCall0 (m_law_alike j) (tCons (tName 2) (tCons (tName 3) (tNil)))) [2, 3]) (rNil))))) (sNext)) (sRet (tAndV (t2 (tIsi "bool" (tName 0)) (tIsi "bool" (tName 1)) pEq) (t2 (tName 0) (tName 1) pEq)))
abbrev N_law_alike : List Str := ["_law_found", "_law_due", "_law_one", "_law_other_here"]
theorem len_law_alike (j : Nat) (ds : List D) (s : Sto) (Q : C → Sto → Prop) (h : m_law_alike j ds s Q) : ds.length = 2 := by
  unfold m_law_alike at h
  split at h
  · rfl
  · exact h.elim
theorem zipF_self : ∀ ds : List D, zipF ds ds = ds.map fun d => .tup [d, d]
  | [] => rfl
  | d :: ds => by rw [zipF, zipF_self ds, List.map_cons]
theorem p_law_alike (j : Nat) (ds : List D) (s : Sto) (Q : C → Sto → Prop) (h : m_law_alike (j + 1) ds s Q) : t_law_alike j noX { nx := fun e => Q (.d .non) e.st, rt := fun c e => Q c e.st } ⟨startC N_law_alike ds, s⟩ := by
  unfold m_law_alike at h
  split at h
  · rename_i a b
    obtain ⟨rfl, h1, q⟩ := h
    unfold t_law_alike
    cases a with
    | str w =>
      simpa?! only []
      refine opt_of (a := false) (by decide +kernel) ?_
      simpa?! only []
      refine opt_of (a := false) (by decide +kernel) ?_
      simpa?! only []
      refine opt_of (a := false) (by decide +kernel) ?_
      simpa?! only []
      exact q
    | int i =>
      simpa?! only []
      refine opt_of (a := false) (by decide +kernel) ?_
      simpa?! only []
      refine opt_of (a := false) (by decide +kernel) ?_
      simpa?! only []
      refine opt_of (a := false) (by decide +kernel) ?_
      simpa?! only []
      exact q
    | tup ds =>
      obtain ⟨h2, h3⟩ := h1
      simpa?! only []
      refine opt_of (a := true) (by decide +kernel) ?_
      simpa?! only []
      refine opt_of (a := true) (by decide +kernel) ?_
      simpa?! only []
      refine ⟨fun d hd => (h2 d hd).2, ?_⟩
      rw [zipF_self]
      refine ⟨by rw [List.length_map]; omega, ?_⟩
      refine lcH_mm (g0 := fun d => D.tup [d, d]) (fun _ => D.bl true) (fun d hd K k => ?_) ?_
      · simpa?! only []
        refine alike_i (h2 d hd).1 ?_
        simpa?! only []
        exact k
      simpa?! only []
      refine pAll_true (fun d hd => ?_) ?_
      · obtain ⟨x, _, rfl⟩ := List.mem_map.mp hd
        rfl
      simpa?! only []
      exact q
    | _ => exact h1.elim
  · exact h.elim
theorem pl_tm : ∀ {t : Tm} {j : Nat}, t.dp + 2 ≤ j → PlD j (tmD t)
  | .walk w, j + 2, _ => ⟨fun d hd => by
      have : d = .str kWalk ∨ d = .str w := by simpa using hd
      rcases this with rfl | rfl <;> exact ⟨trivial, rfl⟩, by simp⟩
  | .name w, j + 2, _ => ⟨fun d hd => by
      have : d = .str kName ∨ d = .str w := by simpa using hd
      rcases this with rfl | rfl <;> exact ⟨trivial, rfl⟩, by simp⟩
  | .thn s t, j + 2, h => ⟨fun d hd => by
      have hs : s.dp + 2 ≤ j + 1 ∧ t.dp + 2 ≤ j + 1 := by simp only [Tm.dp] at h; omega
      have : d = .str kThen ∨ d = tmD s ∨ d = tmD t := by simpa using hd
      rcases this with rfl | rfl | rfl
      · exact ⟨trivial, rfl⟩
      · exact ⟨pl_tm hs.1, pr_tm s⟩
      · exact ⟨pl_tm hs.2, pr_tm t⟩, by simp⟩
  | .back t, j + 2, h => ⟨fun d hd => by
      have hs : t.dp + 2 ≤ j + 1 := by simp only [Tm.dp] at h; omega
      have : d = .str kBack ∨ d = tmD t := by simpa using hd
      rcases this with rfl | rfl
      · exact ⟨trivial, rfl⟩
      · exact ⟨pl_tm hs, pr_tm t⟩, by simp⟩
  | .again k t, j + 2, h => ⟨fun d hd => by
      have hs : t.dp + 2 ≤ j + 1 := by simp only [Tm.dp] at h; omega
      have : d = .str kAgain ∨ d = .int k ∨ d = tmD t := by simpa using hd
      rcases this with rfl | rfl | rfl
      · exact ⟨trivial, rfl⟩
      · exact ⟨trivial, rfl⟩
      · exact ⟨pl_tm hs, pr_tm t⟩, by simp⟩
  | .fr x s t, j + 2, h => ⟨fun d hd => by
      have hs : s.dp + 2 ≤ j + 1 ∧ t.dp + 2 ≤ j + 1 := by simp only [Tm.dp] at h; omega
      have : d = .str kFor ∨ d = .str [x] ∨ d = tmD s ∨ d = tmD t := by simpa using hd
      rcases this with rfl | rfl | rfl | rfl
      · exact ⟨trivial, rfl⟩
      · exact ⟨trivial, rfl⟩
      · exact ⟨pl_tm hs.1, pr_tm s⟩
      · exact ⟨pl_tm hs.2, pr_tm t⟩, by simp⟩
where pr_tm : ∀ t : Tm, isPr (tmD t) = false
  | .walk _ => rfl
  | .name _ => rfl
  | .thn _ _ => rfl
  | .back _ => rfl
  | .again _ _ => rfl
  | .fr _ _ _ => rfl
theorem pl_prog {rows : List (List Nat × Tm)} (h : ∀ r ∈ rows, r.2.dp ≤ 5) (hl : rows.length ≤ 100) : PlD 9 (.tup (rows.map rowT)) := by
  refine ⟨fun d hd => ?_, by rw [List.length_map]; exact hl⟩
  obtain ⟨r, hr, rfl⟩ := List.mem_map.mp hd
  refine ⟨⟨fun d hd => ?_, by simp⟩, rfl⟩
  have : d = .str r.1 ∨ d = tmD r.2 := by simpa using hd
  rcases this with rfl | rfl
  · exact ⟨trivial, rfl⟩
  · exact ⟨pl_tm (by have := h r hr; show r.2.dp + 2 ≤ 7; omega), pl_tm.pr_tm _⟩
theorem cl4 {x : PX} {e : En} {Q : R → En → Prop} : tLst (tCons (tTup (tCons (tD (.int 8)) (tCons (tD (.int 2)) (tNil)))) (tCons (tTup (tCons (tD (.int 5)) (tCons (tD (.int 4)) (tNil)))) (tCons (tTup (tCons (tD (.int 2)) (tCons (tD (.int 11)) (tNil)))) (tCons (tTup (tCons (tD (.int 3)) (tCons (tD (.int 7)) (tNil)))) (tNil))))) x e Q = Q (.own [.tup [.int 8, .int 2], .tup [.int 5, .int 4], .tup [.int 2, .int 11], .tup [.int 3, .int 7]]) e := by
  simpa?! only []
def SOk5 (r : List Nat × Tm) : Prop := NameOk r.1 ∧ TOk r.2 ∧ r.2.dp ≤ 5
theorem SOk5.rok {r : List Nat × Tm} (h : SOk5 r) : ROk r := ⟨h.1, h.2.1, by have := h.2.2; omega⟩
def m_law_small_program : PM := fun ds st Q => match ds with
  | [.box] => ∀ rows : List (List Nat × Tm), (∀ r ∈ rows, SOk5 r) → rows.length ≤ 9 → rows ≠ [] → Q (.d (.tup (rows.map rowT))) st
  | _ => False
theorem e_small {s Q} : m_law_small_program [.box] s Q = (∀ rows : List (List Nat × Tm), (∀ r ∈ rows, SOk5 r) → rows.length ≤ 9 → rows ≠ [] → Q (.d (.tup (rows.map rowT))) s) := rfl
def t_law_small_program : PTS := sSeq (sAsg 1 (tCall0 m_law_names (tCons (tName 0) (tCons (tD (.int 8)) (tNil))))) (sSeq (sAsg 2 (tCall0 m_law_pool (tCons (tName 0) (tNil)))) (sSeq (sAsgG (gTup 2 (gCons (gName 3) (gCons (gName 4) (gNil)))) (t2 (tLst (tCons (tTup (tCons (tD (.int 8)) (tCons (tD (.int 2)) (tNil)))) (tCons (tTup (tCons (tD (.int 5)) (tCons (tD (.int 4)) (tNil)))) (tCons (tTup (tCons (tD (.int 2)) (tCons (tD (.int 11)) (tNil)))) (tCons (tTup (tCons (tD (.int 3)) (tCons (tD (.int 7)) (tNil)))) (tNil)))))) (tCall0 m_law_take (tCons (tName 0) (tCons (tD (.int 4)) (tNil)))) pIx)) (sSeq (sAsg 5 (tLst (tNil))) (sSeq (sFor (iPure pRng1 (rCons (t2 (tD (.int 1)) (tCall0 m_law_take (tCons (tName 0) (tCons (tName 3) (tNil)))) pAdd) (rNil))) (gName 6) (sSeq (sAsg 7 (t2 (tName 1) (t2 (tLst (tCons (tName 6) (tCons (tCall0 m_law_take (tCons (tName 0) (tCons (tD (.int 8)) (tNil)))) (tNil)))) (tCallP pInt (rCons (t2 (tCall0 m_law_take (tCons (tName 0) (tCons (tD (.int 4)) (tNil)))) (tD (.int 0)) pEq) (rNil))) pIx) pIx)) (sDrop (tMut mAppend (tName 5) (tCons (tTup (tCons (tName 7) (tCons (tCall0 (m_law_term 6) (tCons (tName 0) (tCons (tName 1) (tCons (tName 2) (tCons (tName 4) (tCons (tD (.int 5)) (tNil))))))) (tNil)))) (tNil)))))) (sRet (tCallP pTuple (rCons (tName 5) (rNil))))))))
abbrev N_law_small_program : List Str := ["_law_box_here", "_law_names_here", "_law_pool_here", "_law_top", "_law_room", "_law_rows", "_law_k", "_law_name"]
def sp_rest : PTS := sSeq (sAsg 5 (tLst (tNil))) (sSeq (sFor (iPure pRng1 (rCons (t2 (tD (.int 1)) (tCall0 m_law_take (tCons (tName 0) (tCons (tName 3) (tNil)))) pAdd) (rNil))) (gName 6) (sSeq (sAsg 7 (t2 (tName 1) (t2 (tLst (tCons (tName 6) (tCons (tCall0 m_law_take (tCons (tName 0) (tCons (tD (.int 8)) (tNil)))) (tNil)))) (tCallP pInt (rCons (t2 (tCall0 m_law_take (tCons (tName 0) (tCons (tD (.int 4)) (tNil)))) (tD (.int 0)) pEq) (rNil))) pIx) pIx)) (sDrop (tMut mAppend (tName 5) (tCons (tTup (tCons (tName 7) (tCons (tCall0 (m_law_term 6) (tCons (tName 0) (tCons (tName 1) (tCons (tName 2) (tCons (tName 4) (tCons (tD (.int 5)) (tNil))))))) (tNil)))) (tNil)))))) (sRet (tCallP pTuple (rCons (tName 5) (rNil)))))
def sp_ag : PTS := sSeq (sAsgG (gTup 2 (gCons (gName 3) (gCons (gName 4) (gNil)))) (t2 (tLst (tCons (tTup (tCons (tD (.int 8)) (tCons (tD (.int 2)) (tNil)))) (tCons (tTup (tCons (tD (.int 5)) (tCons (tD (.int 4)) (tNil)))) (tCons (tTup (tCons (tD (.int 2)) (tCons (tD (.int 11)) (tNil)))) (tCons (tTup (tCons (tD (.int 3)) (tCons (tD (.int 7)) (tNil)))) (tNil)))))) (tCall0 m_law_take (tCons (tName 0) (tCons (tD (.int 4)) (tNil)))) pIx)) (sSeq (sAsg 5 (tLst (tNil))) (sSeq (sFor (iPure pRng1 (rCons (t2 (tD (.int 1)) (tCall0 m_law_take (tCons (tName 0) (tCons (tName 3) (tNil)))) pAdd) (rNil))) (gName 6) (sSeq (sAsg 7 (t2 (tName 1) (t2 (tLst (tCons (tName 6) (tCons (tCall0 m_law_take (tCons (tName 0) (tCons (tD (.int 8)) (tNil)))) (tNil)))) (tCallP pInt (rCons (t2 (tCall0 m_law_take (tCons (tName 0) (tCons (tD (.int 4)) (tNil)))) (tD (.int 0)) pEq) (rNil))) pIx) pIx)) (sDrop (tMut mAppend (tName 5) (tCons (tTup (tCons (tName 7) (tCons (tCall0 (m_law_term 6) (tCons (tName 0) (tCons (tName 1) (tCons (tName 2) (tCons (tName 4) (tCons (tD (.int 5)) (tNil))))))) (tNil)))) (tNil)))))) (sRet (tCallP pTuple (rCons (tName 5) (rNil))))))
def sp_body : PTS := sSeq (sAsg 7 (t2 (tName 1) (t2 (tLst (tCons (tName 6) (tCons (tCall0 m_law_take (tCons (tName 0) (tCons (tD (.int 8)) (tNil)))) (tNil)))) (tCallP pInt (rCons (t2 (tCall0 m_law_take (tCons (tName 0) (tCons (tD (.int 4)) (tNil)))) (tD (.int 0)) pEq) (rNil))) pIx) pIx)) (sDrop (tMut mAppend (tName 5) (tCons (tTup (tCons (tName 7) (tCons (tCall0 (m_law_term 6) (tCons (tName 0) (tCons (tName 1) (tCons (tName 2) (tCons (tName 4) (tCons (tD (.int 5)) (tNil))))))) (tNil)))) (tNil))))
theorem sp_body_ok {ns : List (List Nat)} {p : List Nat} {top room m : Int} {c1 c6 c7 : C} {rows : List (List Nat × Tm)} {s : Sto} {P : PEn} (hc : c1 = .own (ns.map D.str) ∨ c1 = .d (.lst (ns.map D.str))) (hL : ns.length = 8) (hok : ∀ n ∈ ns, NameOk n) (hp : PoolOk p) (r1 : 1 ≤ room) (r2 : room ≤ 12) (m0 : 0 ≤ m) (m1 : m < 8) (hr : rows.length ≤ 9)
    (N : ∀ (c1 c7 : C) (r : List Nat × Tm), (c1 = .own (ns.map D.str) ∨ c1 = .d (.lst (ns.map D.str))) → SOk5 r → P.nx ⟨[.d .box, c1, .d (.str p), .d (.int top), .d (.int room), .own (rows.map rowT ++ [rowT r]), .d (.int m), c7], s⟩) :
    sp_body noX P ⟨[.d .box, c1, .d (.str p), .d (.int top), .d (.int room), .own (rows.map rowT), .d (.int m), c7], s⟩ := by
  unfold sp_body
  have two : ∀ {x y : D} {d : Int} {f : D → Prop}, (∀ z, z = x ∨ z = y → f z) → opt (atI [x, y] (if decide (d = 0) = true then 1 else 0)) (HB.mk f ()) := fun {x y d f} q => by
    split
    · exact opt_of (a := y) rfl (q y (.inr rfl))
    · exact opt_of (a := x) rfl (q x (.inl rfl))
  rcases hc with rfl | rfl
  · simpa?! only [e_take]
    intro d d0 d1 f f0 f1
    refine two fun z hz => ?_
    have hz : ∃ i : Int, 0 ≤ i ∧ i < 8 ∧ z = .int i := by
      rcases hz with rfl | rfl
      · exact ⟨m, m0, m1, rfl⟩
      · exact ⟨d, d0, d1, rfl⟩
    obtain ⟨i, i0, i1, rfl⟩ := hz
    obtain ⟨nm, hn, eA⟩ := at_names (names := ns) i0 (by omega)
    simpa?! only []
    refine opt_of eA ?_
    simpa?! only []
    refine term_i (by omega) hp r1 r2 (by omega) (by omega) (by omega) fun t w dp => ?_
    simpa?! only []
    exact ⟨by rw [List.length_map]; omega, N _ _ (nm, t) (.inr rfl) ⟨hok nm hn, w.tok hok, by have : t.dp ≤ 5 := dp; exact this⟩⟩
  · simpa?! only [e_take]
    intro d d0 d1 f f0 f1
    refine two fun z hz => ?_
    have hz : ∃ i : Int, 0 ≤ i ∧ i < 8 ∧ z = .int i := by
      rcases hz with rfl | rfl
      · exact ⟨m, m0, m1, rfl⟩
      · exact ⟨d, d0, d1, rfl⟩
    obtain ⟨i, i0, i1, rfl⟩ := hz
    obtain ⟨nm, hn, eA⟩ := at_names (names := ns) i0 (by omega)
    simpa?! only []
    refine opt_of eA ?_
    simpa?! only []
    refine term_i (by omega) hp r1 r2 (by omega) (by omega) (by omega) fun t w dp => ?_
    simpa?! only []
    exact ⟨by rw [List.length_map]; omega, N _ _ (nm, t) (.inr rfl) ⟨hok nm hn, w.tok hok, by have : t.dp ≤ 5 := dp; exact this⟩⟩
theorem sp_rest_ok {ns : List (List Nat)} {p : List Nat} {top room : Int} {s : Sto} {Q : C → Sto → Prop} (hL : ns.length = 8) (hok : ∀ n ∈ ns, NameOk n) (hp : PoolOk p) (t1 : 1 ≤ top) (t2 : top ≤ 8) (r1 : 1 ≤ room) (r2 : room ≤ 12) (q : ∀ rows : List (List Nat × Tm), (∀ r ∈ rows, SOk5 r) → rows.length ≤ 9 → rows ≠ [] → Q (.d (.tup (rows.map rowT))) s) :
    sp_rest noX { nx := fun e => Q (.d .non) e.st, rt := fun c e => Q c e.st } ⟨[.d .box, .own (ns.map D.str), .d (.str p), .d (.int top), .d (.int room), .un, .un, .un], s⟩ := by
  have B := fun (c1 c7 : C) (m : Int) (rows : List (List Nat × Tm)) (P : PEn) => sp_body_ok (ns := ns) (p := p) (top := top) (room := room) (m := m) (c1 := c1) (c6 := .un) (c7 := c7) (rows := rows) (s := s) (P := P)
  generalize hR : sp_body = RR at B
  have hR' : RR = _ := hR.symm
  unfold sp_body at hR'
  unfold sp_rest
  rw [← hR']
  simpa?! only [e_take]
  refine ⟨by omega, by omega, fun d d0 d1 => ⟨⟨by omega, by omega⟩, ?_⟩⟩
  have ed : (1 + d).toNat = 1 + d.toNat := by omega
  rw [ed]
  refine forH_rng 0 _ (fun m e => ∃ (c1 c6 c7 : C) (rows : List (List Nat × Tm)), (c1 = .own (ns.map D.str) ∨ c1 = .d (.lst (ns.map D.str))) ∧ e = ⟨[.d .box, c1, .d (.str p), .d (.int top), .d (.int room), .own (rows.map rowT), c6, c7], s⟩ ∧ (∀ r ∈ rows, SOk5 r) ∧ rows.length = m) ⟨_, _, _, [], .inl rfl, rfl, fun r h => (by cases h), rfl⟩ ?_ ?_
  · rintro e ⟨c1, c6, c7, rows, _, rfl, h1, h2⟩
    simpa?! only []
    exact q rows h1 (by omega) (fun z => by rw [z] at h2; simp at h2; omega)
  · rintro m e hm ⟨c1, c6, c7, rows, hc, rfl, h1, h2⟩ N hN
    simpa?! only []
    refine B _ _ _ _ _ hc hL hok hp r1 r2 (by omega) (by omega) (by omega) fun c1' c7 r hc' hr => ?_
    exact hN _ ⟨c1', _, c7, rows ++ [r], hc', by rw [List.map_append]; rfl, fun r' h => (List.mem_append.mp h).elim (h1 r') fun z => by rw [List.mem_singleton] at z; exact z ▸ hr, by rw [List.length_append, h2]; rfl⟩
theorem sp_ag_ok {ns : List (List Nat)} {p : List Nat} {s : Sto} {Q : C → Sto → Prop} (hL : ns.length = 8) (hok : ∀ n ∈ ns, NameOk n) (hp : PoolOk p) (q : ∀ rows : List (List Nat × Tm), (∀ r ∈ rows, SOk5 r) → rows.length ≤ 9 → rows ≠ [] → Q (.d (.tup (rows.map rowT))) s) :
    sp_ag noX { nx := fun e => Q (.d .non) e.st, rt := fun c e => Q c e.st } ⟨[.d .box, .own (ns.map D.str), .d (.str p), .un, .un, .un, .un, .un], s⟩ := by
  have R := fun (top room : Int) (t1 : 1 ≤ top) (t2 : top ≤ 8) (r1 : 1 ≤ room) (r2 : room ≤ 12) => sp_rest_ok (top := top) (room := room) hL hok hp t1 t2 r1 r2 q
  generalize hR : sp_rest = RR at R
  have hR' : RR = _ := hR.symm
  unfold sp_rest at hR'
  unfold sp_ag
  rw [← hR', x_seq, x_asgG, x_2, cl4]
  simpa?! only [e_take]
  intro w w0 w1
  have : w = 0 ∨ w = 1 ∨ w = 2 ∨ w = 3 := by omega
  rcases this with rfl | rfl | rfl | rfl
  · refine at_head rfl ?_
    simpa?! only []
    exact R 8 2 (by omega) (by omega) (by omega) (by omega)
  · refine opt_of (a := .tup [.int 5, .int 4]) rfl ?_
    simpa?! only []
    exact R 5 4 (by omega) (by omega) (by omega) (by omega)
  · refine opt_of (a := .tup [.int 2, .int 11]) rfl ?_
    simpa?! only []
    exact R 2 11 (by omega) (by omega) (by omega) (by omega)
  · refine opt_of (a := .tup [.int 3, .int 7]) rfl ?_
    simpa?! only []
    exact R 3 7 (by omega) (by omega) (by omega) (by omega)
theorem len_law_small_program (ds : List D) (s : Sto) (Q : C → Sto → Prop) (h : m_law_small_program ds s Q) : ds.length = 1 := by
  unfold m_law_small_program at h
  split at h
  · rfl
  · exact h.elim
theorem p_law_small_program (ds : List D) (s : Sto) (Q : C → Sto → Prop) (h : m_law_small_program ds s Q) : t_law_small_program noX { nx := fun e => Q (.d .non) e.st, rt := fun c e => Q c e.st } ⟨startC N_law_small_program ds, s⟩ := by
  unfold m_law_small_program at h
  split at h
  · have q := h
    have R := fun (ns : List (List Nat)) (p : List Nat) (hL : ns.length = 8) (hok : ∀ n ∈ ns, NameOk n) (hp : PoolOk p) => sp_ag_ok hL hok hp q
    generalize hR : sp_ag = RR at R
    have hR' : RR = _ := hR.symm
    unfold sp_ag at hR'
    unfold t_law_small_program
    rw [← hR']
    simpa?! only [e_names]
    intro ns hns nd hok
    simpa?! only [e_pool]
    intro p hp
    exact R ns p (by omega) hok hp
  · exact h.elim
def m_law_long_right : PM := fun ds st Q => match ds with
  | [.box] => ∀ ext, Q (.d (.bl true)) (st ++ ext)
  | _ => False
theorem e_long {s Q} : m_law_long_right [.box] s Q = (∀ ext, Q (.d (.bl true)) (s ++ ext)) := rfl
def t_law_long_right : PTS := sSeq (sPar 1 2 (tCons (tCall0 m_law_names (tCons (tName 0) (tCons (tD (.int 8)) (tNil)))) (tCons (tCall0 m_law_pool (tCons (tName 0) (tNil))) (tNil)))) (sSeq (sAsg 3 (tLst (tNil))) (sSeq (sIf (tB (t2 (tCall0 m_law_take (tCons (tName 0) (tCons (tD (.int 2)) (tNil)))) (tD (.int 0)) pEq)) (sFor (iPure pRng1 (rCons (t2 (tD (.int 1)) (tCall0 m_law_take (tCons (tName 0) (tCons (tD (.int 35)) (tNil)))) pAdd) (rNil))) (gName 6) (sDrop (tMut mAppend (tName 3) (tCons (tTup (tCons (t2 (tName 1) (tCall0 m_law_take (tCons (tName 0) (tCons (tD (.int 8)) (tNil)))) pIx) (tCons (tTup (tCons (tD (.str [119, 97, 108, 107])) (tCons (t2 (t2 (tName 2) (tCall0 m_law_take (tCons (tName 0) (tCons (tCallP pLen (rCons (tName 2) (rNil))) (tNil)))) pIx) (tCall0 m_law_take (tCons (tName 0) (tCons (tD (.int 2)) (tNil)))) pMul) (tNil)))) (tNil)))) (tNil))))) (sDrop (tMut mAppend (tName 3) (tCons (tTup (tCons (t2 (tName 1) (tD (.int 0)) pIx) (tCons (tTup (tCons (tD (.str [98, 97, 99, 107])) (tCons (tTup (tCons (tD (.str [119, 97, 108, 107])) (tCons (t2 (tCall0 m_law_walk (tCons (tName 0) (tCons (tName 2) (tNil)))) (t2 (tD (.int 1)) (tCall0 m_law_take (tCons (tName 0) (tCons (tD (.int 40)) (tNil)))) pAdd) pMul) (tNil)))) (tNil)))) (tNil)))) (tNil))))) (sSeq (sAsg 4 (tCall0 m_law_text (tCons (tName 3) (tNil)))) (sSeq (sAsg 5 (tCall0 m_read_program (tCons (tName 4) (tNil)))) (sRet (tAndV (tCall0 (m_law_alike 9) (tCons (tName 5) (tCons (tCallP pTuple (rCons (tName 3) (rNil))) (tNil)))) (tAndV (t2 (tCall0 m_show_program (tCons (tName 5) (tNil))) (tName 4) pEq) (tCall0 (m_law_alike 9) (tCons (tCall0 m_read_program (tCons (tName 4) (tNil))) (tCons (tName 5) (tNil)))))))))))
abbrev N_law_long_right : List Str := ["_law_box_here", "_law_names_here", "_law_pool_here", "_law_rows", "_law_text_here", "_law_found", "_law_k"]
def lr_rest : PTS := sSeq (sAsg 4 (tCall0 m_law_text (tCons (tName 3) (tNil)))) (sSeq (sAsg 5 (tCall0 m_read_program (tCons (tName 4) (tNil)))) (sRet (tAndV (tCall0 (m_law_alike 9) (tCons (tName 5) (tCons (tCallP pTuple (rCons (tName 3) (rNil))) (tNil)))) (tAndV (t2 (tCall0 m_show_program (tCons (tName 5) (tNil))) (tName 4) pEq) (tCall0 (m_law_alike 9) (tCons (tCall0 m_read_program (tCons (tName 4) (tNil))) (tCons (tName 5) (tNil))))))))
theorem len_law_long_right (ds : List D) (s : Sto) (Q : C → Sto → Prop) (h : m_law_long_right ds s Q) : ds.length = 1 := by
  unfold m_law_long_right at h
  split at h
  · rfl
  · exact h.elim
theorem lr_rest_ok {rows : List (List Nat × Tm)} {c1 c2 c6 : C} {s : Sto} {Q : C → Sto → Prop} (h1 : ∀ r ∈ rows, SOk5 r) (h2 : rows.length ≤ 40) (h3 : rows ≠ []) (q : ∀ ext, Q (.d (.bl true)) (s ++ ext)) :
    lr_rest noX { nx := fun e => Q (.d .non) e.st, rt := fun c e => Q c e.st } ⟨[.d .box, c1, c2, .own (rows.map rowT), .un, .un, c6], s⟩ := by
  have h5 := fun r hr => (h1 r hr).2.2
  have h6 := fun r hr => (h1 r hr).rok
  unfold lr_rest
  simpa?! only []
  refine ltext_i (.inl rfl) h6 h2 ?_
  simpa?! only []
  refine rprog_i h3 h6 h2 fun ext => ?_
  simpa?! only []
  refine alike_i (pl_prog h5 (by omega)) ?_
  simpa?! only []
  refine sprog_i (.inr rfl) h6 h2 ?_
  simpa?! only []
  refine rprog_i h3 h6 h2 fun ext2 => ?_
  simpa?! only []
  refine alike_i (pl_prog h5 (by omega)) ?_
  simpa?! only []
  rw [List.append_assoc]
  exact q _
theorem rep_one (c : Nat) (n : Nat) : (List.replicate n [c]).flatten = List.replicate n c := by
  induction n with
  | zero => rfl
  | succ n ih => rw [List.replicate_succ, List.flatten_cons, ih, List.replicate_succ]; rfl
theorem p_law_long_right (ds : List D) (s : Sto) (Q : C → Sto → Prop) (h : m_law_long_right ds s Q) : t_law_long_right noX { nx := fun e => Q (.d .non) e.st, rt := fun c e => Q c e.st } ⟨startC N_law_long_right ds, s⟩ := by
  unfold m_law_long_right at h
  split at h
  · have q := h
    have R := fun (rows : List (List Nat × Tm)) (c1 c2 c6 : C) (h1 : ∀ r ∈ rows, SOk5 r) (h2 : rows.length ≤ 40) (h3 : rows ≠ []) => lr_rest_ok (c1 := c1) (c2 := c2) (c6 := c6) h1 h2 h3 q
    generalize hR : lr_rest = RR at R
    have hR' : RR = _ := hR.symm
    unfold lr_rest at hR'
    unfold t_law_long_right
    rw [← hR']
    simpa?! only [e_names]
    intro ns hns nd hok
    have hL : ns.length = 8 := by omega
    simpa?! only [e_pool]
    intro p hp
    simpa?! only [e_take]
    intro w w0 w1
    refine br_intro (fun b => ?_) (fun b => ?_)
    · simpa?! only [e_take]
      intro d d0 d1
      refine ⟨⟨by omega, by omega⟩, ?_⟩
      have ed : (1 + d).toNat = 1 + d.toNat := by omega
      rw [ed]
      refine forH_rng 0 _ (fun m e => ∃ (c6 : C) (rows : List (List Nat × Tm)), e = ⟨[.d .box, .d (.lst (ns.map D.str)), .d (.str p), .own (rows.map rowT), .un, .un, c6], s⟩ ∧ (∀ r ∈ rows, SOk5 r) ∧ rows.length = m) ⟨_, [], rfl, fun r h => (by cases h), rfl⟩ ?_ ?_
      · rintro e ⟨c6, rows, rfl, h1, h2⟩
        exact R rows _ _ _ h1 (by omega) (fun z => by rw [z] at h2; simp at h2; omega)
      · rintro m e hm ⟨c6, rows, rfl, h1, h2⟩ N hN
        obtain ⟨p1, p2, a, p3, p4⟩ := hp
        have pl : 0 < p.length := by
          cases p with
          | nil => cases p4
          | cons _ _ => simp
        simpa?! only [e_take]
        intro z z0 z1
        obtain ⟨nm, hn, eA⟩ := at_names (names := ns) z0 (by omega)
        refine opt_of eA ?_
        simpa?! only [e_take]
        refine ⟨by omega, by omega, fun y y0 y1 => ?_⟩
        obtain ⟨hy, eB⟩ := atI_ok y0 y1
        refine opt_of eB ?_
        simpa?! only [e_take]
        intro v v0 v1
        rw [rep_one]
        refine ⟨⟨by omega, by omega⟩, by omega, by rw [List.length_map]; omega, ?_⟩
        refine hN _ ⟨.d (.int (0 + (m : Int))), rows ++ [(nm, .walk (List.replicate v.toNat p[y.toNat]))], by rw [List.map_append]; rfl, fun r hr => ?_, by rw [List.length_append, h2]; rfl⟩
        rcases List.mem_append.mp hr with hr | hr
        · exact h1 r hr
        · rw [List.mem_singleton] at hr
          subst hr
          exact ⟨hok nm hn, ⟨fun c hc => (List.mem_replicate.mp hc).2 ▸ p2 _ (List.getElem_mem hy), by rw [List.length_replicate]; omega⟩, by simp [Tm.dp]⟩
    · simpa?! only []
      obtain ⟨nm, hn, eA⟩ := at_names (names := ns) (d := 0) (by omega) (by omega)
      refine opt_of eA ?_
      simpa?! only [e_walk]
      refine ⟨hp, fun u u1 u2 => ?_⟩
      simpa?! only [e_take]
      intro v v0 v1
      have hv : (1 + v).toNat ≤ 40 := by omega
      have fl : ∀ k : Nat, ((List.replicate k u).flatten).length = k * u.length := fun k => by simp
      have lm : u.length * (1 + v).toNat ≤ 12 * 40 := Nat.mul_le_mul u2 hv
      refine ⟨⟨by omega, by omega⟩, by omega, ?_⟩
      refine R [(nm, .back (.walk (List.replicate (1 + v).toNat u).flatten))] _ _ _ (fun r hr => ?_) (by simp) (by simp)
      rw [List.mem_singleton] at hr
      subst hr
      exact ⟨hok nm hn, ⟨rep_W u1 _, by rw [fl, Nat.mul_comm]; omega⟩, by simp [Tm.dp]⟩
  · exact h.elim
def m_law : PM := fun ds st Q => match ds with
  | [.scr n] => n ≤ 63 ∧ ∀ s', Q (.d (.bl true)) s'
  | _ => False
def t_law : PTS := sSeq (sAsg 1 (cLc (iPure pRng1 (rCons (tCallP pMax2 (rCons (tD (.int 3)) (rCons (tCallP pMin2 (rCons (tD (.int 8)) (rCons (tCallP pLen (rCons (tName 0) (rNil))) (rNil)))) (rNil)))) (rNil))) (gName 6) (cYes) (tCall0 m_law_small_program (tCons (tCall0 m_law_box (tCons (tName 0) (tCons (tName 6) (tNil)))) (tNil))) [6])) (sSeq (sFor (iAny (t2 (tName 1) (tSl (tName 1) (oNone) (oSome (tD (.int 1)))) pAdd)) (gName 2) (sSeq (sAsg 3 (tCall0 m_law_text (tCons (tName 2) (tNil)))) (sSeq (sAsg 4 (tCall0 m_show_program (tCons (tName 2) (tNil)))) (sSeq (sIf (tOr (tNot (tB (tIsi "str" (tName 4)))) (tB (t2 (tName 4) (tName 3) pNe))) (sRet (tD (.bl false))) (sNext)) (sSeq (sAsg 5 (tCall0 m_read_program (tCons (tName 3) (tNil)))) (sIf (tOr (tNot (tB (tCall0 (m_law_alike 9) (tCons (tName 5) (tCons (tName 2) (tNil)))))) (tB (t2 (tCall0 m_show_program (tCons (tName 5) (tNil))) (tName 3) pNe))) (sRet (tD (.bl false))) (sNext))))))) (sRet (tCall0 m_law_long_right (tCons (tCall0 m_law_box (tCons (tName 0) (tCons (tD (.int 8)) (tNil)))) (tNil)))))
abbrev N_law : List Str := ["_law_script", "_law_some", "_law_program", "_law_text_here", "_law_found", "_law_back", "_law_k"]
theorem len_law (ds : List D) (s : Sto) (Q : C → Sto → Prop) (h : m_law ds s Q) : ds.length = 1 := by
  unfold m_law at h
  split at h
  · rfl
  · exact h.elim
theorem law_m (n : Nat) (s : Sto) (Q : C → Sto → Prop) (h : n ≤ 63) (q : ∀ s', Q (.d (.bl true)) s') : m_law [.scr n] s Q := ⟨h, q⟩
theorem all2_map {α : Type} {f : α → D} {P : α → Prop} {ds ys : List D} (h : All2 (fun _ y => ∃ a, y = f a ∧ P a) ds ys) : ∃ as : List α, ys = as.map f ∧ as.length = ds.length ∧ ∀ a ∈ as, P a := by
  induction h with
  | nil => exact ⟨[], rfl, rfl, fun a h => by cases h⟩
  | cons r _ ih =>
    obtain ⟨a, rfl, ha⟩ := r
    obtain ⟨as, rfl, hl, h⟩ := ih
    exact ⟨a :: as, rfl, by simp [hl], fun b hb => (List.mem_cons.mp hb).elim (fun z => z ▸ ha) (h b)⟩
theorem p_law (ds : List D) (s : Sto) (Q : C → Sto → Prop) (h : m_law ds s Q) : t_law noX { nx := fun e => Q (.d .non) e.st, rt := fun c e => Q c e.st } ⟨startC N_law ds, s⟩ := by
  unfold m_law at h
  split at h
  · rename_i n
    obtain ⟨hn, q⟩ := h
    unfold t_law
    simpa?! only []
    refine ⟨⟨by omega, by omega⟩, by rw [rngI_length]; omega, ?_⟩
    refine lcH_rel (fun _ y => ∃ r : List (List Nat × Tm), y = D.tup (r.map rowT) ∧ ((∀ x ∈ r, SOk5 x) ∧ r.length ≤ 9 ∧ r ≠ [])) (fun x hx K k => ?_) fun ys hys => ?_
    · obtain ⟨i, hi, rfl⟩ := rngI_mem hx
      simpa?! only [e_box]
      refine ⟨by omega, by omega, ?_⟩
      simpa?! only [e_small]
      exact fun rows w hl hne => k _ ⟨rows, rfl, w, hl, hne⟩
    obtain ⟨ps, rfl, hpl, hps⟩ := all2_map (f := fun r : List (List Nat × Tm) => D.tup (r.map rowT)) hys
    rw [rngI_length] at hpl
    simpa?! only []
    rw [show cut (ps.map fun r : List (List Nat × Tm) => D.tup (r.map rowT)) none (some 1) = (ps.take 1).map fun r : List (List Nat × Tm) => D.tup (r.map rowT) from by rw [List.map_take]; exact cut_take _ 1]
    refine ⟨by rw [List.length_map, List.length_map, List.length_take]; omega, ?_⟩
    rw [← List.map_append]
    have hp2 : ∀ r ∈ ps ++ ps.take 1, (∀ x ∈ r, SOk5 x) ∧ r.length ≤ 9 ∧ r ≠ [] := fun r hr => (List.mem_append.mp hr).elim (hps r) fun z => hps r (List.mem_of_mem_take z)
    refine forH_map (fun r : List (List Nat × Tm) => D.tup (r.map rowT)) (ps ++ ps.take 1) (fun _ _ e => ∃ (c2 c3 c4 c5 : C) (ext : Sto), e = ⟨[.d (.scr n), .own (ps.map fun r : List (List Nat × Tm) => D.tup (r.map rowT)), c2, c3, c4, c5, .un], s ++ ext⟩) ⟨_, _, _, _, [], by rw [List.append_nil]⟩ ?_ ?_
    · rintro e ⟨c2, c3, c4, c5, ext, rfl⟩
      simpa?! only [e_box, e_long]
      intro ext2
      exact q _
    · rintro pre rows suf e hp ⟨c2, c3, c4, c5, ext, rfl⟩ N hN
      obtain ⟨h2, hl9, hne⟩ := hp2 rows (by rw [← hp]; simp)
      have h5 := fun r hr => (h2 r hr).2.2
      have h6 := fun r hr => (h2 r hr).rok
      simpa?! only []
      refine ltext_i (.inr rfl) h6 (by omega) ?_
      simpa?! only []
      refine sprog_i (.inr rfl) h6 (by omega) ?_
      simpa?! only []
      refine opt_of (a := true) (by decide +kernel) ?_
      simpa?! only []
      refine rprog_i hne h6 (by omega) fun ext1 => ?_
      simpa?! only []
      refine alike_i (pl_prog h5 (by omega)) ?_
      simpa?! only []
      refine sprog_i (.inr rfl) h6 (by omega) ?_
      simpa?! only []
      exact hN _ ⟨_, _, _, _, ext ++ ext1, by rw [List.append_assoc]⟩
  · exact h.elim
end Pu
set_option maxRecDepth 100000
set_option maxHeartbeats 4000000
namespace Lw
open PySem L2 Pu
def top (i : Nat) : Stmt := PySem.Challenge.pw_mustmeet_k60_programs_as_texts.main.body.getD i (.Pass ⟨0, 0, 0, 0⟩)
abbrev s_is_name : Stmt := top 10
def t_is_name : PTS := sSeq (sIf (tOr (tB (t2 (tName 0) (tD (.str [])) pEq)) (tOr (tB (t2 (tCallP pLen (rCons (tName 0) (rNil))) (tD (.int 6)) pGt)) (tB (tKIn false [[116, 104, 101, 110], [98, 97, 99, 107], [97, 103, 97, 105, 110], [102, 111, 114]] (tName 0))))) (sRet (tD (.bl false))) (sNext)) (sRet (tCallP pAll (rCons (cLc (iAny (tName 0)) (gName 1) (cYes) (t2 (tName 1) (tD (.str SM)) (pIn false)) [1]) (rNil))))
abbrev N_is_name : List Str := ["text", "sign"]
theorem sc_is_name : FnScope N_is_name ["text"] (defScope s_is_name) := ⟨rfl, rfl, rfl, by decide +kernel, rfl, by decide +kernel, by decide +kernel⟩
abbrev s_show_term : Stmt := top 11
def t_show_term (j : Nat) : PTS := sSeq (sIf (tB (t2 (t2 (tName 0) (tD (.int 0)) pIx) (tD (.str [119, 97, 108, 107])) pEq)) (sRet (t2 (t2 (tD (.str [39])) (t2 (tName 0) (tD (.int 1)) pIx) pAdd) (tD (.str [39])) pAdd)) (sNext)) (sSeq (sIf (tB (t2 (t2 (tName 0) (tD (.int 0)) pIx) (tD (.str [110, 97, 109, 101])) pEq)) (sRet (t2 (tName 0) (tD (.int 1)) pIx)) (sNext)) (sSeq (sAsg 1 (tLst (tCons (t2 (tName 0) (tD (.int 0)) pIx) (tNil)))) (sSeq (sFor (iZipG [([116, 104, 101, 110], [[116, 101, 114, 109], [116, 101, 114, 109]]), ([98, 97, 99, 107], [[116, 101, 114, 109]]), ([97, 103, 97, 105, 110], [[116, 105, 109, 101, 115], [116, 101, 114, 109]]), ([102, 111, 114], [[108, 101, 116, 116, 101, 114], [116, 101, 114, 109], [116, 101, 114, 109]])] (t2 (tName 0) (tD (.int 0)) pIx) (tSl (tName 0) (oSome (tD (.int 1))) (oNone))) (gTup 2 (gCons (gName 2) (gCons (gName 3) (gNil)))) (sIf (tB (t2 (tName 2) (tD (.str [116, 101, 114, 109])) pEq)) (sDrop (tMut mAppend (tName 1) (tCons (tCall0 (m_show_term j) (tCons (tName 3) (tNil))) (tNil)))) (sDrop (tMut mAppend (tName 1) (tCons (tCallP pStrA (rCons (tName 3) (rNil))) (tNil)))))) (sRet (t2 (t2 (tD (.str [40])) (tMeth "str" pJoin (tD (.str [32])) (rCons (tName 1) (rNil))) pAdd) (tD (.str [41])) pAdd)))))
abbrev N_show_term : List Str := ["term", "found", "sort", "part"]
theorem sc_show_term : FnScope N_show_term ["term"] (defScope s_show_term) := ⟨rfl, rfl, rfl, by decide +kernel, rfl, by decide +kernel, by decide +kernel⟩
abbrev s_show_program : Stmt := top 12
def t_show_program : PTS := sRet (tMeth "str" pJoin (tD (.str [10])) (rCons (cLc (iAny (tName 0)) (gTup 2 (gCons (gName 1) (gCons (gName 2) (gNil)))) (cYes) (t2 (t2 (tName 1) (tD (.str [32, 61, 32])) pAdd) (tCall0 (m_show_term 8) (tCons (tName 2) (tNil))) pAdd) [1, 2]) (rNil)))
abbrev N_show_program : List Str := ["program", "name", "term"]
theorem sc_show_program : FnScope N_show_program ["program"] (defScope s_show_program) := ⟨rfl, rfl, rfl, by decide +kernel, rfl, by decide +kernel, by decide +kernel⟩
abbrev s_read_row : Stmt := top 14
def t_read_row : PTS := sSeq (sAsg 2 (tMeth "str" pSplit1 (tName 0) (rCons (tD (.str [32, 61, 32])) (rCons (tD (.int 1)) (rNil))))) (sSeq (sIf (tOr (tB (t2 (tCallP pLen (rCons (tName 2) (rNil))) (tD (.int 2)) pLt)) (tNot (tB (tCall0 m_is_name (tCons (t2 (tName 2) (tD (.int 0)) pIx) (tNil)))))) (sNever) (sNext)) (sSeq (sAsg 3 (tMakeP 20 m_RowText___init__ (tCons (t2 (tName 2) (tD (.int 1)) pIx) (tCons (tName 1) (tNil))))) (sSeq (sAsg 4 (tMethP 20 "term" (m_RowText_term 8) (tName 3) tNil)) (sSeq (sDrop (tMethP 20 "need" m_RowText_need (tName 3) (tCons (t2 (tFldP 20 "at" (tName 3)) (tCallP pLen (rCons (t2 (tName 2) (tD (.int 1)) pIx) (rNil))) pEq) (tNil)))) (sRet (tTup (tCons (t2 (tName 2) (tD (.int 0)) pIx) (tCons (tName 4) (tNil)))))))))
abbrev N_read_row : List Str := ["text", "number", "words", "reading", "term"]
theorem sc_read_row : FnScope N_read_row ["text", "number"] (defScope s_read_row) := ⟨rfl, rfl, rfl, by decide +kernel, rfl, by decide +kernel, by decide +kernel⟩
abbrev s_read_program : Stmt := top 15
def t_read_program : PTS := sRet (tCallP pTuple (rCons (cLc (iEnumP (rCons (tMeth "str" pSplit (tName 0) (rCons (tD (.str [10])) (rNil))) (rNil))) (gTup 2 (gCons (gName 1) (gCons (gName 2) (gNil)))) (cYes) (tCall0 m_read_row (tCons (tName 2) (tCons (tName 1) (tNil)))) [1, 2]) (rNil)))
abbrev N_read_program : List Str := ["text", "number", "row"]
theorem sc_read_program : FnScope N_read_program ["text"] (defScope s_read_program) := ⟨rfl, rfl, rfl, by decide +kernel, rfl, by decide +kernel, by decide +kernel⟩
abbrev s_law_box : Stmt := top 17
def t_law_box : PTS := sSeq (sAsg 2 (t2 (t2 (tD (.int 7919)) (tName 1) pMul) (tD (.int 11)) pAdd)) (sSeq (sIf (tB (t2 (tName 1) (tCallP pLen (rCons (tName 0) (rNil))) pLt)) (sAsg 2 (t2 (tName 0) (tName 1) pIx)) (sIf (tB (t2 (tCallP pLen (rCons (tName 0) (rNil))) (tD (.int 0)) pGt)) (sAsg 2 (t2 (tName 2) (t2 (t2 (t2 (tName 0) (t2 (tName 1) (tCallP pLen (rCons (tName 0) (rNil))) pMod) pIx) (tD (.int 2147483629)) pMod) (tD (.int 69623)) pMul) pAdd)) (sNext))) (sSeq (sAsg 3 (t2 (t2 (t2 (t2 (t2 (tName 2) (tD (.int 2147483629)) pMod) (t2 (tD (.int 104729)) (tName 1) pMul) pAdd) (tD (.int 1)) pAdd) (tD (.int 5)) pPow) (tD (.int 2147483647)) pMod)) (sRet (tLst (tCons (t2 (tLst (tCons (tD (.int 0)) (tCons (tName 2) (tNil)))) (tCallP pInt (rCons (t2 (tName 2) (t2 (tD (.int 10)) (tD (.int 18)) pPow) pGe) (rNil))) pIx) (tCons (t2 (t2 (tName 3) (tD (.int 2147483646)) pMod) (tD (.int 1)) pAdd) (tNil)))))))
abbrev N_law_box : List Str := ["_law_script", "_law_k", "_law_cell", "_law_seed"]
theorem sc_law_box : FnScope N_law_box ["_law_script", "_law_k"] (defScope s_law_box) := ⟨rfl, rfl, rfl, by decide +kernel, rfl, by decide +kernel, by decide +kernel⟩
abbrev s_law_take : Stmt := top 18
def t_law_take : PTS := sSeq (sIf (tB (t2 (t2 (tName 0) (tD (.int 0)) pIx) (tD (.int 0)) pGt)) (sSeq (sAsg 3 (t2 (t2 (tName 0) (tD (.int 0)) pIx) (tName 1) pMod)) (sSeq (sSetIx (t2 (t2 (tName 0) (tD (.int 0)) pIx) (tName 1) pFdiv) (tName 0) (tD (.int 0))) (sRet (tName 3)))) (sNext)) (sSeq (sAsg 2 (t2 (t2 (t2 (tName 0) (tD (.int 1)) pIx) (tD (.int 69623)) pMul) (tD (.int 2147483647)) pMod)) (sSeq (sSetIx (t2 (t2 (t2 (t2 (tName 2) (tD (.int 48271)) pMul) (tD (.int 30103)) pAdd) (tD (.int 2147483629)) pMod) (tD (.int 1)) pAdd) (tName 0) (tD (.int 1))) (sRet (t2 (t2 (t2 (t2 (tName 2) (tD (.int 2147483647)) pMul) (t2 (tName 0) (tD (.int 1)) pIx) pAdd) (tD (.int 8191)) pFdiv) (tName 1) pMod))))
abbrev N_law_take : List Str := ["_law_box_here", "_law_many", "_law_one", "_law_digit"]
theorem sc_law_take : FnScope N_law_take ["_law_box_here", "_law_many"] (defScope s_law_take) := ⟨rfl, rfl, rfl, by decide +kernel, rfl, by decide +kernel, by decide +kernel⟩
abbrev s_law_names : Stmt := top 20
def t_law_names : PTS := sSeq (sAsg 2 (tD (.str SM))) (sSeq (sAsg 3 (tMeth "str" pJoin (tD (.str [])) (rCons (cLc (iPure pRng1 (rCons (t2 (tD (.int 1)) (tCall0 m_law_take (tCons (tName 0) (tCons (tD (.int 5)) (tNil)))) pAdd) (rNil))) (gName 8) (cYes) (t2 (tName 2) (tCall0 m_law_take (tCons (tName 0) (tCons (tD (.int 26)) (tNil)))) pIx) [8]) (rNil)))) (sSeq (sAsg 4 (tLst (tNil))) (sSeq (sWhile (tB (t2 (tCallP pLen (rCons (tName 4) (rNil))) (tName 1) pLt)) (sSeq (sAsg 5 (tCall0 m_law_take (tCons (tName 0) (tCons (tD (.int 3)) (tNil))))) (sSeq (sAsg 6 (tMeth "str" pJoin (tD (.str [])) (rCons (cLc (iPure pRng1 (rCons (t2 (tD (.int 1)) (tCall0 m_law_take (tCons (tName 0) (tCons (tD (.int 6)) (tNil)))) pAdd) (rNil))) (gName 8) (cYes) (t2 (tName 2) (tCall0 m_law_take (tCons (tName 0) (tCons (tD (.int 26)) (tNil)))) pIx) [8]) (rNil)))) (sSeq (sIf (tB (t2 (tName 5) (tD (.int 0)) pEq)) (sSeq (sAsg 7 (tCall0 m_law_take (tCons (tName 0) (tCons (tCallP pLen (rCons (tName 3) (rNil))) (tNil))))) (sAsg 6 (t2 (t2 (tSl (tName 3) (oNone) (oSome (tName 7))) (t2 (tName 2) (tCall0 m_law_take (tCons (tName 0) (tCons (tD (.int 26)) (tNil)))) pIx) pAdd) (tSl (tName 3) (oSome (t2 (tName 7) (tD (.int 1)) pAdd)) (oNone)) pAdd))) (sNext)) (sSeq (sIf (tB (t2 (tName 5) (tD (.int 1)) pEq)) (sAsg 6 (t2 (tSl (tName 3) (oNone) (oSome (t2 (tD (.int 1)) (tCall0 m_law_take (tCons (tName 0) (tCons (tCallP pLen (rCons (tName 3) (rNil))) (tNil)))) pAdd))) (tSl (tName 6) (oNone) (oSome (tCall0 m_law_take (tCons (tName 0) (tCons (tD (.int 2)) (tNil)))))) pAdd)) (sNext)) (sSeq (sWhile (tOr (tB (t2 (tName 6) (tName 4) (pIn false))) (tB (t2 (tName 6) (tTup (tCons (tD (.str [116, 104, 101, 110])) (tCons (tD (.str [98, 97, 99, 107])) (tCons (tD (.str [97, 103, 97, 105, 110])) (tCons (tD (.str [102, 111, 114])) (tNil)))))) (pIn false)))) (sAsg 6 (t2 (t2 (tName 2) (t2 (t2 (tMeth "str" pIndexS (tName 2) (rCons (t2 (tName 6) (tD (.int 0)) pIx) (rNil))) (tD (.int 1)) pAdd) (tD (.int 26)) pMod) pIx) (tSl (tName 6) (oSome (tD (.int 1))) (oNone)) pAdd))) (sDrop (tMut mAppend (tName 4) (tCons (tName 6) (tNil)))))))))) (sRet (tName 4)))))
abbrev N_law_names : List Str := ["_law_box_here", "_law_many", "_law_letters", "_law_stem", "_law_found", "_law_form", "_law_name", "_law_at", "_law_k"]
theorem sc_law_names : FnScope N_law_names ["_law_box_here", "_law_many"] (defScope s_law_names) := ⟨rfl, rfl, rfl, by decide +kernel, rfl, by decide +kernel, by decide +kernel⟩
abbrev s_law_pool : Stmt := top 21
def t_law_pool : PTS := sSeq (sAsg 1 (tD (.str SM))) (sSeq (sAsg 2 (tMeth "str" pJoin (tD (.str [])) (rCons (cLc (iPure pRng1 (rCons (t2 (tD (.int 1)) (tCall0 m_law_take (tCons (tName 0) (tCons (tD (.int 3)) (tNil)))) pAdd) (rNil))) (gName 3) (cYes) (t2 (tName 1) (tCall0 m_law_take (tCons (tName 0) (tCons (tD (.int 26)) (tNil)))) pIx) [3]) (rNil)))) (sRet (t2 (tName 2) (tMeth0 "str" (pCase PyProof.Rows.up1) (tName 2)) pAdd)))
abbrev N_law_pool : List Str := ["_law_box_here", "_law_letters", "_law_some", "_law_k"]
theorem sc_law_pool : FnScope N_law_pool ["_law_box_here"] (defScope s_law_pool) := ⟨rfl, rfl, rfl, by decide +kernel, rfl, by decide +kernel, by decide +kernel⟩
abbrev s_law_walk : Stmt := top 22
def t_law_walk : PTS := sSeq (sAsg 2 (tName 1)) (sSeq (sIf (tB (t2 (tCall0 m_law_take (tCons (tName 0) (tCons (tD (.int 6)) (tNil)))) (tD (.int 0)) pEq)) (sAsg 2 (tD (.str SMCP))) (sNext)) (sRet (tMeth "str" pJoin (tD (.str [])) (rCons (cLc (iPure pRng1 (rCons (tCall0 m_law_take (tCons (tName 0) (tCons (tD (.int 13)) (tNil)))) (rNil))) (gName 3) (cYes) (t2 (tName 2) (tCall0 m_law_take (tCons (tName 0) (tCons (tCallP pLen (rCons (tName 2) (rNil))) (tNil)))) pIx) [3]) (rNil)))))
abbrev N_law_walk : List Str := ["_law_box_here", "_law_pool_here", "_law_some", "_law_k"]
theorem sc_law_walk : FnScope N_law_walk ["_law_box_here", "_law_pool_here"] (defScope s_law_walk) := ⟨rfl, rfl, rfl, by decide +kernel, rfl, by decide +kernel, by decide +kernel⟩
abbrev s_law_term : Stmt := top 23
def t_law_term (j : Nat) : PTS := sSeq (sAsg 5 (tCall0 m_law_take (tCons (tName 0) (tCons (tD (.int 8)) (tNil))))) (sSeq (sIf (tOr (tB (t2 (tName 3) (tD (.int 2)) pLt)) (tOr (tB (t2 (tName 4) (tD (.int 1)) pLt)) (tB (t2 (tName 5) (tD (.int 2)) pLt)))) (sSeq (sIf (tAnd (tB (t2 (tName 1) (tLst (tNil)) pNe)) (tB (t2 (tCall0 m_law_take (tCons (tName 0) (tCons (tD (.int 2)) (tNil)))) (tD (.int 0)) pEq))) (sRet (tTup (tCons (tD (.str [110, 97, 109, 101])) (tCons (t2 (tName 1) (tCall0 m_law_take (tCons (tName 0) (tCons (tCallP pLen (rCons (tName 1) (rNil))) (tNil)))) pIx) (tNil))))) (sNext)) (sRet (tTup (tCons (tD (.str [119, 97, 108, 107])) (tCons (tCall0 m_law_walk (tCons (tName 0) (tCons (tName 2) (tNil)))) (tNil)))))) (sNext)) (sSeq (sIf (tOr (tB (t2 (tName 5) (tD (.int 2)) pEq)) (tAnd (tB (t2 (tName 3) (tD (.int 3)) pLt)) (tB (t2 (tName 5) (tD (.int 3)) pGt)))) (sRet (tTup (tCons (tD (.str [98, 97, 99, 107])) (tCons (tCall0 (m_law_term j) (tCons (tName 0) (tCons (tName 1) (tCons (tName 2) (tCons (t2 (tName 3) (tD (.int 1)) pSub) (tCons (t2 (tName 4) (tD (.int 1)) pSub) (tNil))))))) (tNil))))) (sNext)) (sSeq (sIf (tB (t2 (tName 5) (tD (.int 3)) pEq)) (sSeq (sAsg 10 (tCall0 m_law_take (tCons (tName 0) (tCons (tD (.int 7)) (tNil))))) (sRet (tTup (tCons (tD (.str [97, 103, 97, 105, 110])) (tCons (tName 10) (tCons (tCall0 (m_law_term j) (tCons (tName 0) (tCons (tName 1) (tCons (tName 2) (tCons (t2 (tName 3) (tD (.int 1)) pSub) (tCons (t2 (tName 4) (tD (.int 1)) pSub) (tNil))))))) (tNil))))))) (sNext)) (sSeq (sAsg 6 (t2 (tD (.int 1)) (tCall0 m_law_take (tCons (tName 0) (tCons (t2 (tName 3) (tD (.int 2)) pSub) (tNil)))) pAdd)) (sSeq (sAsg 7 (t2 (tLst (tCons (t2 (tD (.str SM)) (tCall0 m_law_take (tCons (tName 0) (tCons (tD (.int 26)) (tNil)))) pIx) (tCons (t2 (tName 2) (tD (.int 0)) pIx) (tNil)))) (tCall0 m_law_take (tCons (tName 0) (tCons (tD (.int 2)) (tNil)))) pIx)) (sSeq (sAsg 8 (tCall0 (m_law_term j) (tCons (tName 0) (tCons (tName 1) (tCons (tName 2) (tCons (tName 6) (tCons (t2 (tName 4) (tD (.int 1)) pSub) (tNil)))))))) (sSeq (sAsg 9 (tCall0 (m_law_term j) (tCons (tName 0) (tCons (tName 1) (tCons (tName 2) (tCons (t2 (t2 (tName 3) (tD (.int 1)) pSub) (tName 6) pSub) (tCons (t2 (tName 4) (tD (.int 1)) pSub) (tNil)))))))) (sSeq (sIf (tB (t2 (tName 5) (tD (.int 5)) pGt)) (sRet (tTup (tCons (tD (.str [102, 111, 114])) (tCons (tName 7) (tCons (tName 8) (tCons (tName 9) (tNil))))))) (sNext)) (sRet (tTup (tCons (tD (.str [116, 104, 101, 110])) (tCons (tName 8) (tCons (tName 9) (tNil))))))))))))))
abbrev N_law_term : List Str := ["_law_box_here", "_law_known", "_law_pool_here", "_law_room", "_law_deep", "_law_form", "_law_share", "_law_letter", "_law_one", "_law_other_here", "_law_often"]
theorem sc_law_term : FnScope N_law_term ["_law_box_here", "_law_known", "_law_pool_here", "_law_room", "_law_deep"] (defScope s_law_term) := ⟨rfl, rfl, rfl, by decide +kernel, rfl, by decide +kernel, by decide +kernel⟩
abbrev s_law_term_text : Stmt := top 24
def t_law_term_text (j : Nat) : PTS := sSeq (sIf (tB (t2 (t2 (tName 0) (tD (.int 0)) pIx) (tD (.str [119, 97, 108, 107])) pEq)) (sRet (t2 (t2 (tD (.str [39])) (t2 (tName 0) (tD (.int 1)) pIx) pAdd) (tD (.str [39])) pAdd)) (sNext)) (sSeq (sIf (tB (t2 (t2 (tName 0) (tD (.int 0)) pIx) (tD (.str [110, 97, 109, 101])) pEq)) (sRet (t2 (tName 0) (tD (.int 1)) pIx)) (sNext)) (sSeq (sAsg 1 (t2 (tD (.str [40])) (t2 (tName 0) (tD (.int 0)) pIx) pAdd)) (sSeq (sFor (iAny (tSl (tName 0) (oSome (tD (.int 1))) (oNone))) (gName 2) (sIf (tB (tIsi "tuple" (tName 2))) (sAsg 1 (t2 (t2 (tName 1) (tD (.str [32])) pAdd) (tCall0 (m_law_term_text j) (tCons (tName 2) (tNil))) pAdd)) (sAsg 1 (t2 (t2 (tName 1) (tD (.str [32])) pAdd) (tCallP pStrA (rCons (tName 2) (rNil))) pAdd)))) (sRet (t2 (tName 1) (tD (.str [41])) pAdd)))))
abbrev N_law_term_text : List Str := ["_law_term_here", "_law_found", "_law_part"]
theorem sc_law_term_text : FnScope N_law_term_text ["_law_term_here"] (defScope s_law_term_text) := ⟨rfl, rfl, rfl, by decide +kernel, rfl, by decide +kernel, by decide +kernel⟩
abbrev s_law_text : Stmt := top 25
def t_law_text : PTS := sRet (tMeth "str" pJoin (tD (.str [10])) (rCons (cLc (iAny (tName 0)) (gTup 2 (gCons (gName 1) (gCons (gName 2) (gNil)))) (cYes) (t2 (t2 (tName 1) (tD (.str [32, 61, 32])) pAdd) (tCall0 (m_law_term_text 8) (tCons (tName 2) (tNil))) pAdd) [1, 2]) (rNil)))
abbrev N_law_text : List Str := ["_law_program", "_law_name", "_law_term_here"]
theorem sc_law_text : FnScope N_law_text ["_law_program"] (defScope s_law_text) := ⟨rfl, rfl, rfl, by decide +kernel, rfl, by decide +kernel, by decide +kernel⟩
abbrev s_law_small_program : Stmt := top 26
def t_law_small_program : PTS := sSeq (sAsg 1 (tCall0 m_law_names (tCons (tName 0) (tCons (tD (.int 8)) (tNil))))) (sSeq (sAsg 2 (tCall0 m_law_pool (tCons (tName 0) (tNil)))) (sSeq (sAsgG (gTup 2 (gCons (gName 3) (gCons (gName 4) (gNil)))) (t2 (tLst (tCons (tTup (tCons (tD (.int 8)) (tCons (tD (.int 2)) (tNil)))) (tCons (tTup (tCons (tD (.int 5)) (tCons (tD (.int 4)) (tNil)))) (tCons (tTup (tCons (tD (.int 2)) (tCons (tD (.int 11)) (tNil)))) (tCons (tTup (tCons (tD (.int 3)) (tCons (tD (.int 7)) (tNil)))) (tNil)))))) (tCall0 m_law_take (tCons (tName 0) (tCons (tD (.int 4)) (tNil)))) pIx)) (sSeq (sAsg 5 (tLst (tNil))) (sSeq (sFor (iPure pRng1 (rCons (t2 (tD (.int 1)) (tCall0 m_law_take (tCons (tName 0) (tCons (tName 3) (tNil)))) pAdd) (rNil))) (gName 6) (sSeq (sAsg 7 (t2 (tName 1) (t2 (tLst (tCons (tName 6) (tCons (tCall0 m_law_take (tCons (tName 0) (tCons (tD (.int 8)) (tNil)))) (tNil)))) (tCallP pInt (rCons (t2 (tCall0 m_law_take (tCons (tName 0) (tCons (tD (.int 4)) (tNil)))) (tD (.int 0)) pEq) (rNil))) pIx) pIx)) (sDrop (tMut mAppend (tName 5) (tCons (tTup (tCons (tName 7) (tCons (tCall0 (m_law_term 6) (tCons (tName 0) (tCons (tName 1) (tCons (tName 2) (tCons (tName 4) (tCons (tD (.int 5)) (tNil))))))) (tNil)))) (tNil)))))) (sRet (tCallP pTuple (rCons (tName 5) (rNil))))))))
abbrev N_law_small_program : List Str := ["_law_box_here", "_law_names_here", "_law_pool_here", "_law_top", "_law_room", "_law_rows", "_law_k", "_law_name"]
theorem sc_law_small_program : FnScope N_law_small_program ["_law_box_here"] (defScope s_law_small_program) := ⟨rfl, rfl, rfl, by decide +kernel, rfl, by decide +kernel, by decide +kernel⟩
abbrev s_law_alike : Stmt := top 27
def t_law_alike (j : Nat) : PTS := sSeq (sIf (tB (tIsi "tuple" (tName 1))) (sSeq (sIf (tOr (tNot (tB (tIsi "tuple" (tName 0)))) (tB (t2 (tCallP pLen (rCons (tName 0) (rNil))) (tCallP pLen (rCons (tName 1) (rNil))) pNe))) (sRet (tD (.bl false))) (sNext)) (sRet (tCallP pAll (rCons (cLc (iZipP (rCons (tName 0) (rCons (tName 1) (rNil)))) (gTup 2 (gCons (gName 2) (gCons (gName 3) (gNil)))) (cYes) (tCall0 (m_law_alike j) (tCons (tName 2) (tCons (tName 3) (tNil)))) [2, 3]) (rNil))))) (sNext)) (sRet (tAndV (t2 (tIsi "bool" (tName 0)) (tIsi "bool" (tName 1)) pEq) (t2 (tName 0) (tName 1) pEq)))
abbrev N_law_alike : List Str := ["_law_found", "_law_due", "_law_one", "_law_other_here"]
theorem sc_law_alike : FnScope N_law_alike ["_law_found", "_law_due"] (defScope s_law_alike) := ⟨rfl, rfl, rfl, by decide +kernel, rfl, by decide +kernel, by decide +kernel⟩
abbrev s_law_long_right : Stmt := top 28
def t_law_long_right : PTS := sSeq (sPar 1 2 (tCons (tCall0 m_law_names (tCons (tName 0) (tCons (tD (.int 8)) (tNil)))) (tCons (tCall0 m_law_pool (tCons (tName 0) (tNil))) (tNil)))) (sSeq (sAsg 3 (tLst (tNil))) (sSeq (sIf (tB (t2 (tCall0 m_law_take (tCons (tName 0) (tCons (tD (.int 2)) (tNil)))) (tD (.int 0)) pEq)) (sFor (iPure pRng1 (rCons (t2 (tD (.int 1)) (tCall0 m_law_take (tCons (tName 0) (tCons (tD (.int 35)) (tNil)))) pAdd) (rNil))) (gName 6) (sDrop (tMut mAppend (tName 3) (tCons (tTup (tCons (t2 (tName 1) (tCall0 m_law_take (tCons (tName 0) (tCons (tD (.int 8)) (tNil)))) pIx) (tCons (tTup (tCons (tD (.str [119, 97, 108, 107])) (tCons (t2 (t2 (tName 2) (tCall0 m_law_take (tCons (tName 0) (tCons (tCallP pLen (rCons (tName 2) (rNil))) (tNil)))) pIx) (tCall0 m_law_take (tCons (tName 0) (tCons (tD (.int 2)) (tNil)))) pMul) (tNil)))) (tNil)))) (tNil))))) (sDrop (tMut mAppend (tName 3) (tCons (tTup (tCons (t2 (tName 1) (tD (.int 0)) pIx) (tCons (tTup (tCons (tD (.str [98, 97, 99, 107])) (tCons (tTup (tCons (tD (.str [119, 97, 108, 107])) (tCons (t2 (tCall0 m_law_walk (tCons (tName 0) (tCons (tName 2) (tNil)))) (t2 (tD (.int 1)) (tCall0 m_law_take (tCons (tName 0) (tCons (tD (.int 40)) (tNil)))) pAdd) pMul) (tNil)))) (tNil)))) (tNil)))) (tNil))))) (sSeq (sAsg 4 (tCall0 m_law_text (tCons (tName 3) (tNil)))) (sSeq (sAsg 5 (tCall0 m_read_program (tCons (tName 4) (tNil)))) (sRet (tAndV (tCall0 (m_law_alike 9) (tCons (tName 5) (tCons (tCallP pTuple (rCons (tName 3) (rNil))) (tNil)))) (tAndV (t2 (tCall0 m_show_program (tCons (tName 5) (tNil))) (tName 4) pEq) (tCall0 (m_law_alike 9) (tCons (tCall0 m_read_program (tCons (tName 4) (tNil))) (tCons (tName 5) (tNil)))))))))))
abbrev N_law_long_right : List Str := ["_law_box_here", "_law_names_here", "_law_pool_here", "_law_rows", "_law_text_here", "_law_found", "_law_k"]
theorem sc_law_long_right : FnScope N_law_long_right ["_law_box_here"] (defScope s_law_long_right) := ⟨rfl, rfl, rfl, by decide +kernel, rfl, by decide +kernel, by decide +kernel⟩
abbrev s_law : Stmt := top 29
def t_law : PTS := sSeq (sAsg 1 (cLc (iPure pRng1 (rCons (tCallP pMax2 (rCons (tD (.int 3)) (rCons (tCallP pMin2 (rCons (tD (.int 8)) (rCons (tCallP pLen (rCons (tName 0) (rNil))) (rNil)))) (rNil)))) (rNil))) (gName 6) (cYes) (tCall0 m_law_small_program (tCons (tCall0 m_law_box (tCons (tName 0) (tCons (tName 6) (tNil)))) (tNil))) [6])) (sSeq (sFor (iAny (t2 (tName 1) (tSl (tName 1) (oNone) (oSome (tD (.int 1)))) pAdd)) (gName 2) (sSeq (sAsg 3 (tCall0 m_law_text (tCons (tName 2) (tNil)))) (sSeq (sAsg 4 (tCall0 m_show_program (tCons (tName 2) (tNil)))) (sSeq (sIf (tOr (tNot (tB (tIsi "str" (tName 4)))) (tB (t2 (tName 4) (tName 3) pNe))) (sRet (tD (.bl false))) (sNext)) (sSeq (sAsg 5 (tCall0 m_read_program (tCons (tName 3) (tNil)))) (sIf (tOr (tNot (tB (tCall0 (m_law_alike 9) (tCons (tName 5) (tCons (tName 2) (tNil)))))) (tB (t2 (tCall0 m_show_program (tCons (tName 5) (tNil))) (tName 3) pNe))) (sRet (tD (.bl false))) (sNext))))))) (sRet (tCall0 m_law_long_right (tCons (tCall0 m_law_box (tCons (tName 0) (tCons (tD (.int 8)) (tNil)))) (tNil)))))
abbrev N_law : List Str := ["_law_script", "_law_some", "_law_program", "_law_text_here", "_law_found", "_law_back", "_law_k"]
theorem sc_law : FnScope N_law ["_law_script"] (defScope s_law) := ⟨rfl, rfl, rfl, by decide +kernel, rfl, by decide +kernel, by decide +kernel⟩
abbrev s_RowText___init__ : Stmt := inClass (top 13) 0
def t_RowText___init__ : PTS := sSeq (sFldZ 20 "text" (tName 0) (tName 1)) (sSeq (sFldZ 20 "row" (tName 0) (tName 2)) (sFldZ 20 "at" (tName 0) (tD (.int 0))))
abbrev N_RowText___init__ : List Str := ["self", "text", "row"]
theorem sc_RowText___init__ : FnScope N_RowText___init__ ["self", "text", "row"] (defScope s_RowText___init__) := ⟨rfl, rfl, rfl, by decide +kernel, rfl, by decide +kernel, by decide +kernel⟩
abbrev s_RowText_need : Stmt := inClass (top 13) 1
def t_RowText_need : PTS := sIf (tNot (tB (tName 1))) (sNever) (sNext)
abbrev N_RowText_need : List Str := ["self", "good"]
theorem sc_RowText_need : FnScope N_RowText_need ["self", "good"] (defScope s_RowText_need) := ⟨rfl, rfl, rfl, by decide +kernel, rfl, by decide +kernel, by decide +kernel⟩
abbrev s_RowText_sign : Stmt := inClass (top 13) 2
def t_RowText_sign : PTS := sRet (tSl (tFldP 20 "text" (tName 0)) (oSome (tFldP 20 "at" (tName 0))) (oSome (t2 (tFldP 20 "at" (tName 0)) (tD (.int 1)) pAdd)))
abbrev N_RowText_sign : List Str := ["self"]
theorem sc_RowText_sign : FnScope N_RowText_sign ["self"] (defScope s_RowText_sign) := ⟨rfl, rfl, rfl, by decide +kernel, rfl, by decide +kernel, by decide +kernel⟩
abbrev s_RowText_go_past : Stmt := inClass (top 13) 3
def t_RowText_go_past : PTS := sSeq (sDrop (tMethP 20 "need" m_RowText_need (tName 0) (tCons (t2 (tMethP 20 "sign" m_RowText_sign (tName 0) tNil) (tName 1) pEq) (tNil)))) (sFldZ 20 "at" (tName 0) (t2 (tFldP 20 "at" (tName 0)) (tD (.int 1)) pAdd))
abbrev N_RowText_go_past : List Str := ["self", "sign"]
theorem sc_RowText_go_past : FnScope N_RowText_go_past ["self", "sign"] (defScope s_RowText_go_past) := ⟨rfl, rfl, rfl, by decide +kernel, rfl, by decide +kernel, by decide +kernel⟩
abbrev s_RowText_letters : Stmt := inClass (top 13) 4
def t_RowText_letters : PTS := sSeq (sAsg 1 (tFldP 20 "at" (tName 0))) (sSeq (sWhile (tAnd (tB (t2 (tMethP 20 "sign" m_RowText_sign (tName 0) tNil) (tD (.str [])) pNe)) (tB (t2 (tMethP 20 "sign" m_RowText_sign (tName 0) tNil) (tD (.str SMCP)) (pIn false)))) (sFldZ 20 "at" (tName 0) (t2 (tFldP 20 "at" (tName 0)) (tD (.int 1)) pAdd))) (sRet (tSl (tFldP 20 "text" (tName 0)) (oSome (tName 1)) (oSome (tFldP 20 "at" (tName 0))))))
abbrev N_RowText_letters : List Str := ["self", "begun"]
theorem sc_RowText_letters : FnScope N_RowText_letters ["self"] (defScope s_RowText_letters) := ⟨rfl, rfl, rfl, by decide +kernel, rfl, by decide +kernel, by decide +kernel⟩
abbrev s_RowText_part : Stmt := inClass (top 13) 5
def t_RowText_part (j : Nat) : PTS := sSeq (sIf (tB (t2 (tName 1) (tD (.str [116, 101, 114, 109])) pEq)) (sRet (tMethP 20 "term" (m_RowText_term j) (tName 0) tNil)) (sNext)) (sSeq (sAsg 2 (tMethP 20 "sign" m_RowText_sign (tName 0) tNil)) (sSeq (sDrop (tMethP 20 "need" m_RowText_need (tName 0) (tCons (tAndV (t2 (tName 2) (tD (.str [])) pNe) (t2 (tName 2) (tDG (tDisp2 (tD (.str [116, 105, 109, 101, 115])) (tD (.str [48, 49, 50, 51, 52, 53, 54])) (tD (.str [108, 101, 116, 116, 101, 114])) (tD (.str SM))) (tName 1)) (pIn false))) (tNil)))) (sSeq (sFldZ 20 "at" (tName 0) (t2 (tFldP 20 "at" (tName 0)) (tD (.int 1)) pAdd)) (sSeq (sIf (tB (t2 (tName 1) (tD (.str [116, 105, 109, 101, 115])) pEq)) (sRet (tCallP pIntS (rCons (tName 2) (rNil)))) (sNext)) (sRet (tName 2))))))
abbrev N_RowText_part : List Str := ["self", "sort", "found"]
theorem sc_RowText_part : FnScope N_RowText_part ["self", "sort"] (defScope s_RowText_part) := ⟨rfl, rfl, rfl, by decide +kernel, rfl, by decide +kernel, by decide +kernel⟩
abbrev s_RowText_term : Stmt := inClass (top 13) 6
def t_RowText_term (j : Nat) : PTS := sSeq (sIf (tB (t2 (tMethP 20 "sign" m_RowText_sign (tName 0) tNil) (tD (.str [39])) pEq)) (sSeq (sFldZ 20 "at" (tName 0) (t2 (tFldP 20 "at" (tName 0)) (tD (.int 1)) pAdd)) (sSeq (sAsg 1 (tMethP 20 "letters" m_RowText_letters (tName 0) tNil)) (sSeq (sDrop (tMethP 20 "go_past" m_RowText_go_past (tName 0) (tCons (tD (.str [39])) (tNil)))) (sRet (tTup (tCons (tD (.str [119, 97, 108, 107])) (tCons (tName 1) (tNil)))))))) (sNext)) (sSeq (sIf (tB (t2 (tMethP 20 "sign" m_RowText_sign (tName 0) tNil) (tD (.str [40])) pNe)) (sSeq (sAsg 1 (tMethP 20 "letters" m_RowText_letters (tName 0) tNil)) (sSeq (sDrop (tMethP 20 "need" m_RowText_need (tName 0) (tCons (tCall0 m_is_name (tCons (tName 1) (tNil))) (tNil)))) (sRet (tTup (tCons (tD (.str [110, 97, 109, 101])) (tCons (tName 1) (tNil))))))) (sNext)) (sSeq (sFldZ 20 "at" (tName 0) (t2 (tFldP 20 "at" (tName 0)) (tD (.int 1)) pAdd)) (sSeq (sAsg 1 (tMethP 20 "letters" m_RowText_letters (tName 0) tNil)) (sSeq (sDrop (tMethP 20 "need" m_RowText_need (tName 0) (tCons (tKHas [[116, 104, 101, 110], [98, 97, 99, 107], [97, 103, 97, 105, 110], [102, 111, 114]] (tName 1)) (tNil)))) (sSeq (sAsg 2 (tLst (tCons (tName 1) (tNil)))) (sSeq (sFor (iGT [([116, 104, 101, 110], [[116, 101, 114, 109], [116, 101, 114, 109]]), ([98, 97, 99, 107], [[116, 101, 114, 109]]), ([97, 103, 97, 105, 110], [[116, 105, 109, 101, 115], [116, 101, 114, 109]]), ([102, 111, 114], [[108, 101, 116, 116, 101, 114], [116, 101, 114, 109], [116, 101, 114, 109]])] (tName 1)) (gName 3) (sSeq (sDrop (tMethP 20 "go_past" m_RowText_go_past (tName 0) (tCons (tD (.str [32])) (tNil)))) (sDrop (tMut mAppend (tName 2) (tCons (tMethP 20 "part" (m_RowText_part j) (tName 0) (tCons (tName 3) (tNil))) (tNil)))))) (sSeq (sDrop (tMethP 20 "go_past" m_RowText_go_past (tName 0) (tCons (tD (.str [41])) (tNil)))) (sRet (tCallP pTuple (rCons (tName 2) (rNil)))))))))))
abbrev N_RowText_term : List Str := ["self", "word", "found", "sort"]
theorem sc_RowText_term : FnScope N_RowText_term ["self"] (defScope s_RowText_term) := ⟨rfl, rfl, rfl, by decide +kernel, rfl, by decide +kernel, by decide +kernel⟩
structure Tx (K : PySem.W.Frag) (mg : Str → Option Value) (w : World) where
  f_is_name : Addr
  fd_is_name : FuncData
  d_is_name : DefOk K mg "is_name" s_is_name ["text"] f_is_name fd_is_name
  f_show_term : Addr
  fd_show_term : FuncData
  d_show_term : DefOk K mg "show_term" s_show_term ["term"] f_show_term fd_show_term
  f_show_program : Addr
  fd_show_program : FuncData
  d_show_program : DefOk K mg "show_program" s_show_program ["program"] f_show_program fd_show_program
  f_read_row : Addr
  fd_read_row : FuncData
  d_read_row : DefOk K mg "read_row" s_read_row ["text", "number"] f_read_row fd_read_row
  f_read_program : Addr
  fd_read_program : FuncData
  d_read_program : DefOk K mg "read_program" s_read_program ["text"] f_read_program fd_read_program
  f_law_box : Addr
  fd_law_box : FuncData
  d_law_box : DefOk K mg "_law_box" s_law_box ["_law_script", "_law_k"] f_law_box fd_law_box
  f_law_take : Addr
  fd_law_take : FuncData
  d_law_take : DefOk K mg "_law_take" s_law_take ["_law_box_here", "_law_many"] f_law_take fd_law_take
  f_law_names : Addr
  fd_law_names : FuncData
  d_law_names : DefOk K mg "_law_names" s_law_names ["_law_box_here", "_law_many"] f_law_names fd_law_names
  f_law_pool : Addr
  fd_law_pool : FuncData
  d_law_pool : DefOk K mg "_law_pool" s_law_pool ["_law_box_here"] f_law_pool fd_law_pool
  f_law_walk : Addr
  fd_law_walk : FuncData
  d_law_walk : DefOk K mg "_law_walk" s_law_walk ["_law_box_here", "_law_pool_here"] f_law_walk fd_law_walk
  f_law_term : Addr
  fd_law_term : FuncData
  d_law_term : DefOk K mg "_law_term" s_law_term ["_law_box_here", "_law_known", "_law_pool_here", "_law_room", "_law_deep"] f_law_term fd_law_term
  f_law_term_text : Addr
  fd_law_term_text : FuncData
  d_law_term_text : DefOk K mg "_law_term_text" s_law_term_text ["_law_term_here"] f_law_term_text fd_law_term_text
  f_law_text : Addr
  fd_law_text : FuncData
  d_law_text : DefOk K mg "_law_text" s_law_text ["_law_program"] f_law_text fd_law_text
  f_law_small_program : Addr
  fd_law_small_program : FuncData
  d_law_small_program : DefOk K mg "_law_small_program" s_law_small_program ["_law_box_here"] f_law_small_program fd_law_small_program
  f_law_alike : Addr
  fd_law_alike : FuncData
  d_law_alike : DefOk K mg "_law_alike" s_law_alike ["_law_found", "_law_due"] f_law_alike fd_law_alike
  f_law_long_right : Addr
  fd_law_long_right : FuncData
  d_law_long_right : DefOk K mg "_law_long_right" s_law_long_right ["_law_box_here"] f_law_long_right fd_law_long_right
  f_law : Addr
  fd_law : FuncData
  d_law : DefOk K mg "law" s_law ["_law_script"] f_law fd_law
  C_RowText : Addr
  g_RowText : mg "RowText" = some (.ref C_RowText)
  f_RowText___init__ : Addr
  fd_RowText___init__ : FuncData
  d_RowText___init__ : MethOk K C_RowText "__init__" "RowText.__init__" s_RowText___init__ ["self", "text", "row"] f_RowText___init__ fd_RowText___init__
  f_RowText_need : Addr
  fd_RowText_need : FuncData
  d_RowText_need : MethOk K C_RowText "need" "RowText.need" s_RowText_need ["self", "good"] f_RowText_need fd_RowText_need
  f_RowText_sign : Addr
  fd_RowText_sign : FuncData
  d_RowText_sign : MethOk K C_RowText "sign" "RowText.sign" s_RowText_sign ["self"] f_RowText_sign fd_RowText_sign
  f_RowText_go_past : Addr
  fd_RowText_go_past : FuncData
  d_RowText_go_past : MethOk K C_RowText "go_past" "RowText.go_past" s_RowText_go_past ["self", "sign"] f_RowText_go_past fd_RowText_go_past
  f_RowText_letters : Addr
  fd_RowText_letters : FuncData
  d_RowText_letters : MethOk K C_RowText "letters" "RowText.letters" s_RowText_letters ["self"] f_RowText_letters fd_RowText_letters
  f_RowText_part : Addr
  fd_RowText_part : FuncData
  d_RowText_part : MethOk K C_RowText "part" "RowText.part" s_RowText_part ["self", "sort"] f_RowText_part fd_RowText_part
  f_RowText_term : Addr
  fd_RowText_term : FuncData
  d_RowText_term : MethOk K C_RowText "term" "RowText.term" s_RowText_term ["self"] f_RowText_term fd_RowText_term
  cl_RowText : Cls K C_RowText
  mk_RowText : Mk K C_RowText f_RowText___init__
  a_RowText_at : PySem.W.findIn K (.ref C_RowText) "at" = some none
  a_RowText_row : PySem.W.findIn K (.ref C_RowText) "row" = some none
  a_RowText_text : PySem.W.findIn K (.ref C_RowText) "text" = some none
  n_all : mg "all" = none
  n_bool : mg "bool" = none
  n_enumerate : mg "enumerate" = none
  n_int : mg "int" = none
  n_isinstance : mg "isinstance" = none
  n_len : mg "len" = none
  n_max : mg "max" = none
  n_min : mg "min" = none
  n_range : mg "range" = none
  n_str : mg "str" = none
  n_tuple : mg "tuple" = none
  n_zip : mg "zip" = none
  tk_SMALL : Tok
  c_SMALL : mg "SMALL" = some (.str "abcdefghijklmnopqrstuvwxyz" tk_SMALL)
  tk_LETTERS : Tok
  c_LETTERS : mg "LETTERS" = some (.str "abcdefghijklmnopqrstuvwxyzABCDEFGHIJKLMNOPQRSTUVWXYZ" tk_LETTERS)
  tk_MOST_SIGNS : Tok
  c_MOST_SIGNS : mg "MOST_SIGNS" = some (.int 6 tk_MOST_SIGNS)
  tk_TIMES : Tok
  c_TIMES : mg "TIMES" = some (.str "0123456" tk_TIMES)
  d_KEPT : Addr
  gd_KEPT : mg "KEPT" = some (.ref d_KEPT)
  kk_KEPT : KTup K d_KEPT [[116, 104, 101, 110], [98, 97, 99, 107], [97, 103, 97, 105, 110], [102, 111, 114]]
  d_SORTS : Addr
  gd_SORTS : mg "SORTS" = some (.ref d_SORTS)
  gt_SORTS : GT K w d_SORTS [([116, 104, 101, 110], [[116, 101, 114, 109], [116, 101, 114, 109]]), ([98, 97, 99, 107], [[116, 101, 114, 109]]), ([97, 103, 97, 105, 110], [[116, 105, 109, 101, 115], [116, 101, 114, 109]]), ([102, 111, 114], [[108, 101, 116, 116, 101, 114], [116, 101, 114, 109], [116, 101, 114, 109]])]
  hs_SORTS : KHas K w d_SORTS [[116, 104, 101, 110], [98, 97, 99, 107], [97, 103, 97, 105, 110], [102, 111, 114]]
section
variable {P : Program} {w : World} {K : PySem.W.Frag} {mg : Str → Option Value} {base : Heap} (T : Tx K mg w)
abbrev flds0 : Nat → List Str := fun _ => []
abbrev clsF : Nat → Addr
  | 20 => T.C_RowText
  | _ => 0
abbrev clsT (P : Program) (w : World) : Cl := ⟨clsF T, P, w⟩
theorem w_is_name : VSs (fam0 P w K mg base N_is_name "is_name" (defScope s_is_name) T.f_is_name 0 (clsT T P w) flds0) (defBody s_is_name) t_is_name :=
  vss_cons (vs_if (VW.vt (vw_or (vt_eq hu0 (ve_name 0) (ve_str [])) (vw_or (vt_gt (ve_len (fun _ => T.n_len) (vr_cons (ve_name 0) (vr_nil))) (ve_globI (fun _ => T.c_MOST_SIGNS))) (vw_or1 (vt_kin (fun _ => T.gd_KEPT) T.kk_KEPT (ve_name 0)))))) (vss_one (vs_ret (ve_bl))) (vss_nil)) (vss_one (vs_ret (ve_all (fun _ => T.n_all) (vr_cons (ve_lc (fun _ => sc_is_name.nd) (vi_any (ve_name 0)) (fun _ => blkOk_by (own := [("sign", 1)]) (by show blkC N_is_name (defScope s_is_name) _ _ = true; decide +kernel)) (vg_name (i := 1) (fun _ => sc_is_name.nd)) (vts_nil) (ve_in (hu_blk hu0) (ve_name 1) (ve_globS SM (fun _ => T.c_SMALL)))) (vr_nil)))))
theorem ok_is_name : FnG P w K mg base CX0 1 T.f_is_name T.fd_is_name ["text"] (sp0 K (clsT T P w) flds0 m_is_name) := fn0 T.d_is_name.fn sc_is_name (w_is_name T) len_is_name p_is_name
theorem w_law_box : VSs (fam0 P w K mg base N_law_box "_law_box" (defScope s_law_box) T.f_law_box 0 (clsT T P w) flds0) (defBody s_law_box) t_law_box :=
  vss_cons (vs_set (i := 2) (fun _ => sc_law_box.nd) (ve_add (ve_mul (ve_int) (ve_name 1)) (ve_int))) (vss_cons (vs_if (vt_lt (ve_name 1) (ve_len (fun _ => T.n_len) (vr_cons (ve_name 0) (vr_nil)))) (vss_one (vs_set (i := 2) (fun _ => sc_law_box.nd) (ve_ix (ve_name 0) (ve_name 1)))) (vss_one (vs_if (vt_gt (ve_len (fun _ => T.n_len) (vr_cons (ve_name 0) (vr_nil))) (ve_int)) (vss_one (vs_set (i := 2) (fun _ => sc_law_box.nd) (ve_add (ve_name 2) (ve_mul (ve_mod (ve_ix (ve_name 0) (ve_mod (ve_name 1) (ve_len (fun _ => T.n_len) (vr_cons (ve_name 0) (vr_nil))))) (ve_int)) (ve_int))))) (vss_nil)))) (vss_cons (vs_set (i := 3) (fun _ => sc_law_box.nd) (ve_mod (ve_pow (ve_add (ve_add (ve_mod (ve_name 2) (ve_int)) (ve_mul (ve_int) (ve_name 1))) (ve_int)) (ve_int)) (ve_int))) (vss_one (vs_ret (ve_lst (va_cons (ve_ix (ve_lst (va_cons (ve_int) (va_cons (ve_name 2) (va_nil)))) (ve_int1 (fun _ => T.n_int) (vr_cons (ve_ge (ve_name 2) (ve_pow (ve_int) (ve_int))) (vr_nil)))) (va_cons (ve_add (ve_mod (ve_name 3) (ve_int)) (ve_int)) (va_nil))))))))
theorem ok_law_box0 : FnG P w K mg base CX0 1 T.f_law_box T.fd_law_box ["_law_script", "_law_k"] (sp0 K (clsT T P w) flds0 mb_law_box) := fn0 T.d_law_box.fn sc_law_box (w_law_box T) len_law_box p_law_box
theorem ok_law_box : FnG P w K mg base CX0 1 T.f_law_box T.fd_law_box ["_law_script", "_law_k"] (sp0 K (clsT T P w) flds0 m_law_box) := Pu.FnG.imp0 (Pu.FnG.boxed (ok_law_box0 T)) box_law_box
theorem w_law_take : VSs (fam0 P w K mg base N_law_take "_law_take" (defScope s_law_take) T.f_law_take 0 (clsT T P w) flds0) (defBody s_law_take) t_law_take :=
  vss_cons (vs_if (vt_gt (ve_ix (ve_name 0) (ve_int)) (ve_int)) (vss_cons (vs_set (i := 3) (fun _ => sc_law_take.nd) (ve_mod (ve_ix (ve_name 0) (ve_int)) (ve_name 1))) (vss_cons (vs_setIx (ve_fdiv (ve_ix (ve_name 0) (ve_int)) (ve_name 1)) (ve_name 0) (ve_int)) (vss_one (vs_ret (ve_name 3))))) (vss_nil)) (vss_cons (vs_set (i := 2) (fun _ => sc_law_take.nd) (ve_mod (ve_mul (ve_ix (ve_name 0) (ve_int)) (ve_int)) (ve_int))) (vss_cons (vs_setIx (ve_add (ve_mod (ve_add (ve_mul (ve_name 2) (ve_int)) (ve_int)) (ve_int)) (ve_int)) (ve_name 0) (ve_int)) (vss_one (vs_ret (ve_mod (ve_fdiv (ve_add (ve_mul (ve_name 2) (ve_int)) (ve_ix (ve_name 0) (ve_int))) (ve_int)) (ve_name 1))))))
theorem ok_law_take : FnG P w K mg base CX0 1 T.f_law_take T.fd_law_take ["_law_box_here", "_law_many"] (sp0 K (clsT T P w) flds0 m_law_take) := fn0 T.d_law_take.fn sc_law_take (w_law_take T) len_law_take p_law_take
theorem w_RowText___init__ : VSs (fam0 P w K mg base N_RowText___init__ "RowText.__init__" (defScope s_RowText___init__) T.f_RowText___init__ 0 (clsT T P w) flds0) (defBody s_RowText___init__) t_RowText___init__ :=
  vss_cons (vs_fldZ (c := 20) T.cl_RowText T.a_RowText_text (ve_name 0) (ve_name 1)) (vss_cons (vs_fldZ (c := 20) T.cl_RowText T.a_RowText_row (ve_name 0) (ve_name 2)) (vss_one (vs_fldZ (c := 20) T.cl_RowText T.a_RowText_at (ve_name 0) (ve_int))))
theorem ok_RowText___init__ : FnG P w K mg base CX0 1 T.f_RowText___init__ T.fd_RowText___init__ ["self", "text", "row"] (sp0 K (clsT T P w) flds0 m_RowText___init__) := fn0 T.d_RowText___init__.fn sc_RowText___init__ (w_RowText___init__ T) len_RowText___init__ p_RowText___init__
theorem w_RowText_need : VSs (fam0 P w K mg base N_RowText_need "RowText.need" (defScope s_RowText_need) T.f_RowText_need 0 (clsT T P w) flds0) (defBody s_RowText_need) t_RowText_need :=
  vss_one (vs_if (vt_not (vt_val (ve_name 1))) (vss_one (vs_never)) (vss_nil))
theorem ok_RowText_need : FnG P w K mg base CX0 1 T.f_RowText_need T.fd_RowText_need ["self", "good"] (sp0 K (clsT T P w) flds0 m_RowText_need) := fn0 T.d_RowText_need.fn sc_RowText_need (w_RowText_need T) len_RowText_need p_RowText_need
theorem w_RowText_sign : VSs (fam0 P w K mg base N_RowText_sign "RowText.sign" (defScope s_RowText_sign) T.f_RowText_sign 0 (clsT T P w) flds0) (defBody s_RowText_sign) t_RowText_sign :=
  vss_one (vs_ret (ve_slice (ve_fld (c := 20) T.cl_RowText T.a_RowText_text (ve_name 0)) (vo_some (ve_fld (c := 20) T.cl_RowText T.a_RowText_at (ve_name 0))) (vo_some (ve_add (ve_fld (c := 20) T.cl_RowText T.a_RowText_at (ve_name 0)) (ve_int)))))
theorem ok_RowText_sign : FnG P w K mg base CX0 1 T.f_RowText_sign T.fd_RowText_sign ["self"] (sp0 K (clsT T P w) flds0 m_RowText_sign) := fn0 T.d_RowText_sign.fn sc_RowText_sign (w_RowText_sign T) len_RowText_sign p_RowText_sign
theorem w_law_names : VSs (fam0 P w K mg base N_law_names "_law_names" (defScope s_law_names) T.f_law_names 1 (clsT T P w) flds0) (defBody s_law_names) t_law_names :=
  vss_cons (vs_set (i := 2) (fun _ => sc_law_names.nd) (ve_str SM)) (vss_cons (vs_set (i := 3) (fun _ => sc_law_names.nd) (ve_join (ve_str []) (vr_cons (ve_lc (fun _ => sc_law_names.nd) (vi_range1 (fun _ => T.n_range) (vr_cons (ve_add (ve_int) (ve_call0 (fun _ => ok_law_take T) (fun p => p.hr.mono (by decide)) hg0 (fun _ => T.d_law_take.g) T.d_law_take.fn.kp T.d_law_take.b (va_cons (ve_name 0) (va_cons (ve_int) (va_nil))))) (vr_nil))) (fun _ => blkOk_by (own := [("_law_k", 8)]) (by show blkC N_law_names (defScope s_law_names) _ _ = true; decide +kernel)) (vg_name (i := 8) (fun _ => sc_law_names.nd)) (vts_nil) (ve_ix (ve_name 2) (ve_call0 (fun _ => ok_law_take T) (fun p => p.1.hr.mono (by decide)) (hg_blk hg0) (fun _ => T.d_law_take.g) T.d_law_take.fn.kp T.d_law_take.b (va_cons (ve_name 0) (va_cons (ve_int) (va_nil)))))) (vr_nil)))) (vss_cons (vs_set (i := 4) (fun _ => sc_law_names.nd) (ve_lst (va_nil))) (vss_cons (vs_while (fun _ => PassesOwn.never) (vt_lt (ve_len (fun _ => T.n_len) (vr_cons (ve_name 4) (vr_nil))) (ve_name 1)) (vss_cons (vs_set (i := 5) (fun _ => sc_law_names.nd) (ve_call0 (fun _ => ok_law_take T) (fun p => p.hr.mono (by decide)) hg0 (fun _ => T.d_law_take.g) T.d_law_take.fn.kp T.d_law_take.b (va_cons (ve_name 0) (va_cons (ve_int) (va_nil))))) (vss_cons (vs_set (i := 6) (fun _ => sc_law_names.nd) (ve_join (ve_str []) (vr_cons (ve_lc (fun _ => sc_law_names.nd) (vi_range1 (fun _ => T.n_range) (vr_cons (ve_add (ve_int) (ve_call0 (fun _ => ok_law_take T) (fun p => p.hr.mono (by decide)) hg0 (fun _ => T.d_law_take.g) T.d_law_take.fn.kp T.d_law_take.b (va_cons (ve_name 0) (va_cons (ve_int) (va_nil))))) (vr_nil))) (fun _ => blkOk_by (own := [("_law_k", 8)]) (by show blkC N_law_names (defScope s_law_names) _ _ = true; decide +kernel)) (vg_name (i := 8) (fun _ => sc_law_names.nd)) (vts_nil) (ve_ix (ve_name 2) (ve_call0 (fun _ => ok_law_take T) (fun p => p.1.hr.mono (by decide)) (hg_blk hg0) (fun _ => T.d_law_take.g) T.d_law_take.fn.kp T.d_law_take.b (va_cons (ve_name 0) (va_cons (ve_int) (va_nil)))))) (vr_nil)))) (vss_cons (vs_if (vt_eq hu0 (ve_name 5) (ve_int)) (vss_cons (vs_set (i := 7) (fun _ => sc_law_names.nd) (ve_call0 (fun _ => ok_law_take T) (fun p => p.hr.mono (by decide)) hg0 (fun _ => T.d_law_take.g) T.d_law_take.fn.kp T.d_law_take.b (va_cons (ve_name 0) (va_cons (ve_len (fun _ => T.n_len) (vr_cons (ve_name 3) (vr_nil))) (va_nil))))) (vss_one (vs_set (i := 6) (fun _ => sc_law_names.nd) (ve_add (ve_add (ve_slice (ve_name 3) (vo_none) (vo_some (ve_name 7))) (ve_ix (ve_name 2) (ve_call0 (fun _ => ok_law_take T) (fun p => p.hr.mono (by decide)) hg0 (fun _ => T.d_law_take.g) T.d_law_take.fn.kp T.d_law_take.b (va_cons (ve_name 0) (va_cons (ve_int) (va_nil)))))) (ve_slice (ve_name 3) (vo_some (ve_add (ve_name 7) (ve_int))) (vo_none)))))) (vss_nil)) (vss_cons (vs_if (vt_eq hu0 (ve_name 5) (ve_int)) (vss_one (vs_set (i := 6) (fun _ => sc_law_names.nd) (ve_add (ve_slice (ve_name 3) (vo_none) (vo_some (ve_add (ve_int) (ve_call0 (fun _ => ok_law_take T) (fun p => p.hr.mono (by decide)) hg0 (fun _ => T.d_law_take.g) T.d_law_take.fn.kp T.d_law_take.b (va_cons (ve_name 0) (va_cons (ve_len (fun _ => T.n_len) (vr_cons (ve_name 3) (vr_nil))) (va_nil))))))) (ve_slice (ve_name 6) (vo_none) (vo_some (ve_call0 (fun _ => ok_law_take T) (fun p => p.hr.mono (by decide)) hg0 (fun _ => T.d_law_take.g) T.d_law_take.fn.kp T.d_law_take.b (va_cons (ve_name 0) (va_cons (ve_int) (va_nil))))))))) (vss_nil)) (vss_cons (vs_while (fun _ => PassesOwn.never) (VW.vt (vw_or (vt_in hu0 (ve_name 6) (ve_name 4)) (vw_or1 (vt_in hu0 (ve_name 6) (ve_tup (va_cons (ve_str [116, 104, 101, 110]) (va_cons (ve_str [98, 97, 99, 107]) (va_cons (ve_str [97, 103, 97, 105, 110]) (va_cons (ve_str [102, 111, 114]) (va_nil)))))))))) (vss_one (vs_set (i := 6) (fun _ => sc_law_names.nd) (ve_add (ve_ix (ve_name 2) (ve_mod (ve_add (ve_indexS (ve_name 2) (vr_cons (ve_ix (ve_name 6) (ve_int)) (vr_nil))) (ve_int)) (ve_int))) (ve_slice (ve_name 6) (vo_some (ve_int)) (vo_none)))))) (vss_one (vs_expr (ve_append (ve_name 4) (va_cons (ve_name 6) (va_nil))))))))))) (vss_one (vs_ret (ve_name 4))))))
theorem ok_law_names : FnG P w K mg base CX0 2 T.f_law_names T.fd_law_names ["_law_box_here", "_law_many"] (sp0 K (clsT T P w) flds0 m_law_names) := fn0 T.d_law_names.fn sc_law_names (w_law_names T) len_law_names p_law_names
theorem w_law_pool : VSs (fam0 P w K mg base N_law_pool "_law_pool" (defScope s_law_pool) T.f_law_pool 1 (clsT T P w) flds0) (defBody s_law_pool) t_law_pool :=
  vss_cons (vs_set (i := 1) (fun _ => sc_law_pool.nd) (ve_str SM)) (vss_cons (vs_set (i := 2) (fun _ => sc_law_pool.nd) (ve_join (ve_str []) (vr_cons (ve_lc (fun _ => sc_law_pool.nd) (vi_range1 (fun _ => T.n_range) (vr_cons (ve_add (ve_int) (ve_call0 (fun _ => ok_law_take T) (fun p => p.hr.mono (by decide)) hg0 (fun _ => T.d_law_take.g) T.d_law_take.fn.kp T.d_law_take.b (va_cons (ve_name 0) (va_cons (ve_int) (va_nil))))) (vr_nil))) (fun _ => blkOk_by (own := [("_law_k", 3)]) (by show blkC N_law_pool (defScope s_law_pool) _ _ = true; decide +kernel)) (vg_name (i := 3) (fun _ => sc_law_pool.nd)) (vts_nil) (ve_ix (ve_name 1) (ve_call0 (fun _ => ok_law_take T) (fun p => p.1.hr.mono (by decide)) (hg_blk hg0) (fun _ => T.d_law_take.g) T.d_law_take.fn.kp T.d_law_take.b (va_cons (ve_name 0) (va_cons (ve_int) (va_nil)))))) (vr_nil)))) (vss_one (vs_ret (ve_add (ve_name 2) (ve_upper (ve_name 2))))))
theorem ok_law_pool : FnG P w K mg base CX0 2 T.f_law_pool T.fd_law_pool ["_law_box_here"] (sp0 K (clsT T P w) flds0 m_law_pool) := fn0 T.d_law_pool.fn sc_law_pool (w_law_pool T) len_law_pool p_law_pool
theorem w_law_walk : VSs (fam0 P w K mg base N_law_walk "_law_walk" (defScope s_law_walk) T.f_law_walk 1 (clsT T P w) flds0) (defBody s_law_walk) t_law_walk :=
  vss_cons (vs_set (i := 2) (fun _ => sc_law_walk.nd) (ve_name 1)) (vss_cons (vs_if (vt_eq hu0 (ve_call0 (fun _ => ok_law_take T) (fun p => p.hr.mono (by decide)) hg0 (fun _ => T.d_law_take.g) T.d_law_take.fn.kp T.d_law_take.b (va_cons (ve_name 0) (va_cons (ve_int) (va_nil)))) (ve_int)) (vss_one (vs_set (i := 2) (fun _ => sc_law_walk.nd) (ve_str SMCP))) (vss_nil)) (vss_one (vs_ret (ve_join (ve_str []) (vr_cons (ve_lc (fun _ => sc_law_walk.nd) (vi_range1 (fun _ => T.n_range) (vr_cons (ve_call0 (fun _ => ok_law_take T) (fun p => p.hr.mono (by decide)) hg0 (fun _ => T.d_law_take.g) T.d_law_take.fn.kp T.d_law_take.b (va_cons (ve_name 0) (va_cons (ve_int) (va_nil)))) (vr_nil))) (fun _ => blkOk_by (own := [("_law_k", 3)]) (by show blkC N_law_walk (defScope s_law_walk) _ _ = true; decide +kernel)) (vg_name (i := 3) (fun _ => sc_law_walk.nd)) (vts_nil) (ve_ix (ve_name 2) (ve_call0 (fun _ => ok_law_take T) (fun p => p.1.hr.mono (by decide)) (hg_blk hg0) (fun _ => T.d_law_take.g) T.d_law_take.fn.kp T.d_law_take.b (va_cons (ve_name 0) (va_cons (ve_len (fun _ => T.n_len) (vr_cons (ve_name 2) (vr_nil))) (va_nil)))))) (vr_nil))))))
theorem ok_law_walk : FnG P w K mg base CX0 2 T.f_law_walk T.fd_law_walk ["_law_box_here", "_law_pool_here"] (sp0 K (clsT T P w) flds0 m_law_walk) := fn0 T.d_law_walk.fn sc_law_walk (w_law_walk T) len_law_walk p_law_walk
theorem w_RowText_go_past : VSs (fam0 P w K mg base N_RowText_go_past "RowText.go_past" (defScope s_RowText_go_past) T.f_RowText_go_past 1 (clsT T P w) flds0) (defBody s_RowText_go_past) t_RowText_go_past :=
  vss_cons (vs_expr (ve_im (c := 20) T.cl_RowText T.d_RowText_need.m (fun _ => ok_RowText_need T) (fun p => p.hr.mono (by decide)) hg0 T.d_RowText_need.b (ve_name 0) (va_cons (ve_eq hu0 (ve_im0 (c := 20) T.cl_RowText T.d_RowText_sign.m (fun _ => ok_RowText_sign T) (fun p => p.hr.mono (by decide)) hg0 T.d_RowText_sign.b (ve_name 0)) (ve_name 1)) (va_nil)))) (vss_one (vs_fldZ (c := 20) T.cl_RowText T.a_RowText_at (ve_name 0) (ve_add (ve_fld (c := 20) T.cl_RowText T.a_RowText_at (ve_name 0)) (ve_int))))
theorem ok_RowText_go_past : FnG P w K mg base CX0 2 T.f_RowText_go_past T.fd_RowText_go_past ["self", "sign"] (sp0 K (clsT T P w) flds0 m_RowText_go_past) := fn0 T.d_RowText_go_past.fn sc_RowText_go_past (w_RowText_go_past T) len_RowText_go_past p_RowText_go_past
theorem w_RowText_letters : VSs (fam0 P w K mg base N_RowText_letters "RowText.letters" (defScope s_RowText_letters) T.f_RowText_letters 1 (clsT T P w) flds0) (defBody s_RowText_letters) t_RowText_letters :=
  vss_cons (vs_set (i := 1) (fun _ => sc_RowText_letters.nd) (ve_fld (c := 20) T.cl_RowText T.a_RowText_at (ve_name 0))) (vss_cons (vs_while (fun _ => PassesOwn.never) (VW.vt (vw_and (vt_ne hu0 (ve_im0 (c := 20) T.cl_RowText T.d_RowText_sign.m (fun _ => ok_RowText_sign T) (fun p => p.hr.mono (by decide)) hg0 T.d_RowText_sign.b (ve_name 0)) (ve_str [])) (vw_and1 (vt_in hu0 (ve_im0 (c := 20) T.cl_RowText T.d_RowText_sign.m (fun _ => ok_RowText_sign T) (fun p => p.hr.mono (by decide)) hg0 T.d_RowText_sign.b (ve_name 0)) (ve_globS SMCP (fun _ => T.c_LETTERS)))))) (vss_one (vs_fldZ (c := 20) T.cl_RowText T.a_RowText_at (ve_name 0) (ve_add (ve_fld (c := 20) T.cl_RowText T.a_RowText_at (ve_name 0)) (ve_int))))) (vss_one (vs_ret (ve_slice (ve_fld (c := 20) T.cl_RowText T.a_RowText_text (ve_name 0)) (vo_some (ve_name 1)) (vo_some (ve_fld (c := 20) T.cl_RowText T.a_RowText_at (ve_name 0)))))))
theorem ok_RowText_letters : FnG P w K mg base CX0 2 T.f_RowText_letters T.fd_RowText_letters ["self"] (sp0 K (clsT T P w) flds0 m_RowText_letters) := fn0 T.d_RowText_letters.fn sc_RowText_letters (w_RowText_letters T) len_RowText_letters p_RowText_letters
theorem w_show_term (j : Nat) (R_show_term : FnG P w K mg base CX0 (1 + 1 * j) T.f_show_term T.fd_show_term ["term"] (sp0 K (clsT T P w) flds0 (m_show_term j))) : VSs (fam0 P w K mg base N_show_term "show_term" (defScope s_show_term) T.f_show_term (1 + 1 * j) (clsT T P w) flds0) (defBody s_show_term) (t_show_term j) :=
  vss_cons (vs_if (vt_eq hu0 (ve_ix (ve_name 0) (ve_int)) (ve_str [119, 97, 108, 107])) (vss_one (vs_ret (ve_add (ve_add (ve_str [39]) (ve_ix (ve_name 0) (ve_int))) (ve_str [39])))) (vss_nil)) (vss_cons (vs_if (vt_eq hu0 (ve_ix (ve_name 0) (ve_int)) (ve_str [110, 97, 109, 101])) (vss_one (vs_ret (ve_ix (ve_name 0) (ve_int)))) (vss_nil)) (vss_cons (vs_set (i := 1) (fun _ => sc_show_term.nd) (ve_lst (va_cons (ve_ix (ve_name 0) (ve_int)) (va_nil)))) (vss_cons (vs_for (fun _ => PassesOwn.never) (vi_zipG (fun _ => T.n_zip) (fun _ => rfl) (fun _ => T.gd_SORTS) T.gt_SORTS (ve_ix (ve_name 0) (ve_int)) (ve_slice (ve_name 0) (vo_some (ve_int)) (vo_none))) (vg_tup (vgs_cons (vg_name (i := 2) (fun _ => sc_show_term.nd)) (vgs_cons (vg_name (i := 3) (fun _ => sc_show_term.nd)) (vgs_nil)))) (vss_one (vs_if (vt_eq hu0 (ve_name 2) (ve_str [116, 101, 114, 109])) (vss_one (vs_expr (ve_append (ve_name 1) (va_cons (ve_call0 (fun _ => R_show_term) (fun p => p.hr.mono (by omega)) hg0 (fun _ => T.d_show_term.g) T.d_show_term.fn.kp T.d_show_term.b (va_cons (ve_name 3) (va_nil))) (va_nil))))) (vss_one (vs_expr (ve_append (ve_name 1) (va_cons (ve_strA (fun _ => T.n_str) (vr_cons (ve_name 3) (vr_nil))) (va_nil)))))))) (vss_one (vs_ret (ve_add (ve_add (ve_str [40]) (ve_join (ve_str [32]) (vr_cons (ve_name 1) (vr_nil)))) (ve_str [41])))))))
theorem okr_show_term : ∀ j, FnG P w K mg base CX0 (1 + 1 * j) T.f_show_term T.fd_show_term ["term"] (sp0 K (clsT T P w) flds0 (m_show_term j))
  | 0 => fn_no (sp0_no no_show_term)
  | j + 1 => fn0 T.d_show_term.fn sc_show_term (w_show_term T j (okr_show_term j)) (len_show_term (j + 1)) (p_show_term j)
theorem ok_show_term : FnG P w K mg base CX0 9 T.f_show_term T.fd_show_term ["term"] (sp0 K (clsT T P w) flds0 (m_show_term 8)) := okr_show_term T 8
theorem w_law_term (j : Nat) (R_law_term : FnG P w K mg base CX0 (3 + 1 * j) T.f_law_term T.fd_law_term ["_law_box_here", "_law_known", "_law_pool_here", "_law_room", "_law_deep"] (sp0 K (clsT T P w) flds0 (m_law_term j))) : VSs (fam0 P w K mg base N_law_term "_law_term" (defScope s_law_term) T.f_law_term (3 + 1 * j) (clsT T P w) flds0) (defBody s_law_term) (t_law_term j) :=
  vss_cons (vs_set (i := 5) (fun _ => sc_law_term.nd) (ve_call0 (fun _ => ok_law_take T) (fun p => p.hr.mono (by omega)) hg0 (fun _ => T.d_law_take.g) T.d_law_take.fn.kp T.d_law_take.b (va_cons (ve_name 0) (va_cons (ve_int) (va_nil))))) (vss_cons (vs_if (VW.vt (vw_or (vt_lt (ve_name 3) (ve_int)) (vw_or (vt_lt (ve_name 4) (ve_int)) (vw_or1 (vt_lt (ve_name 5) (ve_int)))))) (vss_cons (vs_if (VW.vt (vw_and (vt_ne hu0 (ve_name 1) (ve_lst (va_nil))) (vw_and1 (vt_eq hu0 (ve_call0 (fun _ => ok_law_take T) (fun p => p.hr.mono (by omega)) hg0 (fun _ => T.d_law_take.g) T.d_law_take.fn.kp T.d_law_take.b (va_cons (ve_name 0) (va_cons (ve_int) (va_nil)))) (ve_int))))) (vss_one (vs_ret (ve_tup (va_cons (ve_str [110, 97, 109, 101]) (va_cons (ve_ix (ve_name 1) (ve_call0 (fun _ => ok_law_take T) (fun p => p.hr.mono (by omega)) hg0 (fun _ => T.d_law_take.g) T.d_law_take.fn.kp T.d_law_take.b (va_cons (ve_name 0) (va_cons (ve_len (fun _ => T.n_len) (vr_cons (ve_name 1) (vr_nil))) (va_nil))))) (va_nil)))))) (vss_nil)) (vss_one (vs_ret (ve_tup (va_cons (ve_str [119, 97, 108, 107]) (va_cons (ve_call0 (fun _ => ok_law_walk T) (fun p => p.hr.mono (by omega)) hg0 (fun _ => T.d_law_walk.g) T.d_law_walk.fn.kp T.d_law_walk.b (va_cons (ve_name 0) (va_cons (ve_name 2) (va_nil)))) (va_nil))))))) (vss_nil)) (vss_cons (vs_if (VW.vt (vw_or (vt_eq hu0 (ve_name 5) (ve_int)) (vw_or1 (VW.vt (vw_and (vt_lt (ve_name 3) (ve_int)) (vw_and1 (vt_gt (ve_name 5) (ve_int)))))))) (vss_one (vs_ret (ve_tup (va_cons (ve_str [98, 97, 99, 107]) (va_cons (ve_call0 (fun _ => R_law_term) (fun p => p.hr.mono (by omega)) hg0 (fun _ => T.d_law_term.g) T.d_law_term.fn.kp T.d_law_term.b (va_cons (ve_name 0) (va_cons (ve_name 1) (va_cons (ve_name 2) (va_cons (ve_sub (ve_name 3) (ve_int)) (va_cons (ve_sub (ve_name 4) (ve_int)) (va_nil))))))) (va_nil)))))) (vss_nil)) (vss_cons (vs_if (vt_eq hu0 (ve_name 5) (ve_int)) (vss_cons (vs_set (i := 10) (fun _ => sc_law_term.nd) (ve_call0 (fun _ => ok_law_take T) (fun p => p.hr.mono (by omega)) hg0 (fun _ => T.d_law_take.g) T.d_law_take.fn.kp T.d_law_take.b (va_cons (ve_name 0) (va_cons (ve_int) (va_nil))))) (vss_one (vs_ret (ve_tup (va_cons (ve_str [97, 103, 97, 105, 110]) (va_cons (ve_name 10) (va_cons (ve_call0 (fun _ => R_law_term) (fun p => p.hr.mono (by omega)) hg0 (fun _ => T.d_law_term.g) T.d_law_term.fn.kp T.d_law_term.b (va_cons (ve_name 0) (va_cons (ve_name 1) (va_cons (ve_name 2) (va_cons (ve_sub (ve_name 3) (ve_int)) (va_cons (ve_sub (ve_name 4) (ve_int)) (va_nil))))))) (va_nil)))))))) (vss_nil)) (vss_cons (vs_set (i := 6) (fun _ => sc_law_term.nd) (ve_add (ve_int) (ve_call0 (fun _ => ok_law_take T) (fun p => p.hr.mono (by omega)) hg0 (fun _ => T.d_law_take.g) T.d_law_take.fn.kp T.d_law_take.b (va_cons (ve_name 0) (va_cons (ve_sub (ve_name 3) (ve_int)) (va_nil)))))) (vss_cons (vs_set (i := 7) (fun _ => sc_law_term.nd) (ve_ix (ve_lst (va_cons (ve_ix (ve_str SM) (ve_call0 (fun _ => ok_law_take T) (fun p => p.hr.mono (by omega)) hg0 (fun _ => T.d_law_take.g) T.d_law_take.fn.kp T.d_law_take.b (va_cons (ve_name 0) (va_cons (ve_int) (va_nil))))) (va_cons (ve_ix (ve_name 2) (ve_int)) (va_nil)))) (ve_call0 (fun _ => ok_law_take T) (fun p => p.hr.mono (by omega)) hg0 (fun _ => T.d_law_take.g) T.d_law_take.fn.kp T.d_law_take.b (va_cons (ve_name 0) (va_cons (ve_int) (va_nil)))))) (vss_cons (vs_set (i := 8) (fun _ => sc_law_term.nd) (ve_call0 (fun _ => R_law_term) (fun p => p.hr.mono (by omega)) hg0 (fun _ => T.d_law_term.g) T.d_law_term.fn.kp T.d_law_term.b (va_cons (ve_name 0) (va_cons (ve_name 1) (va_cons (ve_name 2) (va_cons (ve_name 6) (va_cons (ve_sub (ve_name 4) (ve_int)) (va_nil)))))))) (vss_cons (vs_set (i := 9) (fun _ => sc_law_term.nd) (ve_call0 (fun _ => R_law_term) (fun p => p.hr.mono (by omega)) hg0 (fun _ => T.d_law_term.g) T.d_law_term.fn.kp T.d_law_term.b (va_cons (ve_name 0) (va_cons (ve_name 1) (va_cons (ve_name 2) (va_cons (ve_sub (ve_sub (ve_name 3) (ve_int)) (ve_name 6)) (va_cons (ve_sub (ve_name 4) (ve_int)) (va_nil)))))))) (vss_cons (vs_if (vt_gt (ve_name 5) (ve_int)) (vss_one (vs_ret (ve_tup (va_cons (ve_str [102, 111, 114]) (va_cons (ve_name 7) (va_cons (ve_name 8) (va_cons (ve_name 9) (va_nil)))))))) (vss_nil)) (vss_one (vs_ret (ve_tup (va_cons (ve_str [116, 104, 101, 110]) (va_cons (ve_name 8) (va_cons (ve_name 9) (va_nil)))))))))))))))
theorem okr_law_term : ∀ j, FnG P w K mg base CX0 (3 + 1 * j) T.f_law_term T.fd_law_term ["_law_box_here", "_law_known", "_law_pool_here", "_law_room", "_law_deep"] (sp0 K (clsT T P w) flds0 (m_law_term j))
  | 0 => fn_no (sp0_no no_law_term)
  | j + 1 => fn0 T.d_law_term.fn sc_law_term (w_law_term T j (okr_law_term j)) (len_law_term (j + 1)) (p_law_term j)
theorem ok_law_term : FnG P w K mg base CX0 9 T.f_law_term T.fd_law_term ["_law_box_here", "_law_known", "_law_pool_here", "_law_room", "_law_deep"] (sp0 K (clsT T P w) flds0 (m_law_term 6)) := okr_law_term T 6
theorem w_law_term_text (j : Nat) (R_law_term_text : FnG P w K mg base CX0 (1 + 1 * j) T.f_law_term_text T.fd_law_term_text ["_law_term_here"] (sp0 K (clsT T P w) flds0 (m_law_term_text j))) : VSs (fam0 P w K mg base N_law_term_text "_law_term_text" (defScope s_law_term_text) T.f_law_term_text (1 + 1 * j) (clsT T P w) flds0) (defBody s_law_term_text) (t_law_term_text j) :=
  vss_cons (vs_if (vt_eq hu0 (ve_ix (ve_name 0) (ve_int)) (ve_str [119, 97, 108, 107])) (vss_one (vs_ret (ve_add (ve_add (ve_str [39]) (ve_ix (ve_name 0) (ve_int))) (ve_str [39])))) (vss_nil)) (vss_cons (vs_if (vt_eq hu0 (ve_ix (ve_name 0) (ve_int)) (ve_str [110, 97, 109, 101])) (vss_one (vs_ret (ve_ix (ve_name 0) (ve_int)))) (vss_nil)) (vss_cons (vs_set (i := 1) (fun _ => sc_law_term_text.nd) (ve_add (ve_str [40]) (ve_ix (ve_name 0) (ve_int)))) (vss_cons (vs_for (fun _ => PassesOwn.never) (vi_any (ve_slice (ve_name 0) (vo_some (ve_int)) (vo_none))) (vg_name (i := 2) (fun _ => sc_law_term_text.nd)) (vss_one (vs_if (vt_val (ve_isi (T := "tuple") (fun _ => T.n_isinstance) (fun _ => T.n_tuple) (ve_name 2))) (vss_one (vs_set (i := 1) (fun _ => sc_law_term_text.nd) (ve_add (ve_add (ve_name 1) (ve_str [32])) (ve_call0 (fun _ => R_law_term_text) (fun p => p.hr.mono (by omega)) hg0 (fun _ => T.d_law_term_text.g) T.d_law_term_text.fn.kp T.d_law_term_text.b (va_cons (ve_name 2) (va_nil)))))) (vss_one (vs_set (i := 1) (fun _ => sc_law_term_text.nd) (ve_add (ve_add (ve_name 1) (ve_str [32])) (ve_strA (fun _ => T.n_str) (vr_cons (ve_name 2) (vr_nil))))))))) (vss_one (vs_ret (ve_add (ve_name 1) (ve_str [41])))))))
theorem okr_law_term_text : ∀ j, FnG P w K mg base CX0 (1 + 1 * j) T.f_law_term_text T.fd_law_term_text ["_law_term_here"] (sp0 K (clsT T P w) flds0 (m_law_term_text j))
  | 0 => fn_no (sp0_no no_law_term_text)
  | j + 1 => fn0 T.d_law_term_text.fn sc_law_term_text (w_law_term_text T j (okr_law_term_text j)) (len_law_term_text (j + 1)) (p_law_term_text j)
theorem ok_law_term_text : FnG P w K mg base CX0 9 T.f_law_term_text T.fd_law_term_text ["_law_term_here"] (sp0 K (clsT T P w) flds0 (m_law_term_text 8)) := okr_law_term_text T 8
theorem w_show_program : VSs (fam0 P w K mg base N_show_program "show_program" (defScope s_show_program) T.f_show_program 9 (clsT T P w) flds0) (defBody s_show_program) t_show_program :=
  vss_one (vs_ret (ve_join (ve_str [10]) (vr_cons (ve_lc (fun _ => sc_show_program.nd) (vi_any (ve_name 0)) (fun _ => blkOk_by (own := [("name", 1), ("term", 2)]) (by show blkC N_show_program (defScope s_show_program) _ _ = true; decide +kernel)) (vg_tup (vgs_cons (vg_name (i := 1) (fun _ => sc_show_program.nd)) (vgs_cons (vg_name (i := 2) (fun _ => sc_show_program.nd)) (vgs_nil)))) (vts_nil) (ve_add (ve_add (ve_name 1) (ve_str [32, 61, 32])) (ve_call0 (fun _ => ok_show_term T) (fun p => p.1.hr.mono (by decide)) (hg_blk hg0) (fun _ => T.d_show_term.g) T.d_show_term.fn.kp T.d_show_term.b (va_cons (ve_name 2) (va_nil))))) (vr_nil))))
theorem ok_show_program : FnG P w K mg base CX0 10 T.f_show_program T.fd_show_program ["program"] (sp0 K (clsT T P w) flds0 m_show_program) := fn0 T.d_show_program.fn sc_show_program (w_show_program T) len_show_program p_show_program
theorem w_law_text : VSs (fam0 P w K mg base N_law_text "_law_text" (defScope s_law_text) T.f_law_text 9 (clsT T P w) flds0) (defBody s_law_text) t_law_text :=
  vss_one (vs_ret (ve_join (ve_str [10]) (vr_cons (ve_lc (fun _ => sc_law_text.nd) (vi_any (ve_name 0)) (fun _ => blkOk_by (own := [("_law_name", 1), ("_law_term_here", 2)]) (by show blkC N_law_text (defScope s_law_text) _ _ = true; decide +kernel)) (vg_tup (vgs_cons (vg_name (i := 1) (fun _ => sc_law_text.nd)) (vgs_cons (vg_name (i := 2) (fun _ => sc_law_text.nd)) (vgs_nil)))) (vts_nil) (ve_add (ve_add (ve_name 1) (ve_str [32, 61, 32])) (ve_call0 (fun _ => ok_law_term_text T) (fun p => p.1.hr.mono (by decide)) (hg_blk hg0) (fun _ => T.d_law_term_text.g) T.d_law_term_text.fn.kp T.d_law_term_text.b (va_cons (ve_name 2) (va_nil))))) (vr_nil))))
theorem ok_law_text : FnG P w K mg base CX0 10 T.f_law_text T.fd_law_text ["_law_program"] (sp0 K (clsT T P w) flds0 m_law_text) := fn0 T.d_law_text.fn sc_law_text (w_law_text T) len_law_text p_law_text
theorem w_law_small_program : VSs (fam0 P w K mg base N_law_small_program "_law_small_program" (defScope s_law_small_program) T.f_law_small_program 9 (clsT T P w) flds0) (defBody s_law_small_program) t_law_small_program :=
  vss_cons (vs_set (i := 1) (fun _ => sc_law_small_program.nd) (ve_call0 (fun _ => ok_law_names T) (fun p => p.hr.mono (by decide)) hg0 (fun _ => T.d_law_names.g) T.d_law_names.fn.kp T.d_law_names.b (va_cons (ve_name 0) (va_cons (ve_int) (va_nil))))) (vss_cons (vs_set (i := 2) (fun _ => sc_law_small_program.nd) (ve_call0 (fun _ => ok_law_pool T) (fun p => p.hr.mono (by decide)) hg0 (fun _ => T.d_law_pool.g) T.d_law_pool.fn.kp T.d_law_pool.b (va_cons (ve_name 0) (va_nil)))) (vss_cons (vs_asgG (ve_ix (ve_lst (va_cons (ve_tup (va_cons (ve_int) (va_cons (ve_int) (va_nil)))) (va_cons (ve_tup (va_cons (ve_int) (va_cons (ve_int) (va_nil)))) (va_cons (ve_tup (va_cons (ve_int) (va_cons (ve_int) (va_nil)))) (va_cons (ve_tup (va_cons (ve_int) (va_cons (ve_int) (va_nil)))) (va_nil)))))) (ve_call0 (fun _ => ok_law_take T) (fun p => p.hr.mono (by decide)) hg0 (fun _ => T.d_law_take.g) T.d_law_take.fn.kp T.d_law_take.b (va_cons (ve_name 0) (va_cons (ve_int) (va_nil))))) (vg_tup (vgs_cons (vg_name (i := 3) (fun _ => sc_law_small_program.nd)) (vgs_cons (vg_name (i := 4) (fun _ => sc_law_small_program.nd)) (vgs_nil))))) (vss_cons (vs_set (i := 5) (fun _ => sc_law_small_program.nd) (ve_lst (va_nil))) (vss_cons (vs_for (fun _ => PassesOwn.never) (vi_range1 (fun _ => T.n_range) (vr_cons (ve_add (ve_int) (ve_call0 (fun _ => ok_law_take T) (fun p => p.hr.mono (by decide)) hg0 (fun _ => T.d_law_take.g) T.d_law_take.fn.kp T.d_law_take.b (va_cons (ve_name 0) (va_cons (ve_name 3) (va_nil))))) (vr_nil))) (vg_name (i := 6) (fun _ => sc_law_small_program.nd)) (vss_cons (vs_set (i := 7) (fun _ => sc_law_small_program.nd) (ve_ix (ve_name 1) (ve_ix (ve_lst (va_cons (ve_name 6) (va_cons (ve_call0 (fun _ => ok_law_take T) (fun p => p.hr.mono (by decide)) hg0 (fun _ => T.d_law_take.g) T.d_law_take.fn.kp T.d_law_take.b (va_cons (ve_name 0) (va_cons (ve_int) (va_nil)))) (va_nil)))) (ve_int1 (fun _ => T.n_int) (vr_cons (ve_eq hu0 (ve_call0 (fun _ => ok_law_take T) (fun p => p.hr.mono (by decide)) hg0 (fun _ => T.d_law_take.g) T.d_law_take.fn.kp T.d_law_take.b (va_cons (ve_name 0) (va_cons (ve_int) (va_nil)))) (ve_int)) (vr_nil)))))) (vss_one (vs_expr (ve_append (ve_name 5) (va_cons (ve_tup (va_cons (ve_name 7) (va_cons (ve_call0 (fun _ => ok_law_term T) (fun p => p.hr.mono (by decide)) hg0 (fun _ => T.d_law_term.g) T.d_law_term.fn.kp T.d_law_term.b (va_cons (ve_name 0) (va_cons (ve_name 1) (va_cons (ve_name 2) (va_cons (ve_name 4) (va_cons (ve_int) (va_nil))))))) (va_nil)))) (va_nil))))))) (vss_one (vs_ret (ve_tuple (fun _ => T.n_tuple) (vr_cons (ve_name 5) (vr_nil)))))))))
theorem ok_law_small_program : FnG P w K mg base CX0 10 T.f_law_small_program T.fd_law_small_program ["_law_box_here"] (sp0 K (clsT T P w) flds0 m_law_small_program) := fn0 T.d_law_small_program.fn sc_law_small_program (w_law_small_program T) len_law_small_program p_law_small_program
theorem w_law_alike (j : Nat) (R_law_alike : FnG P w K mg base CX0 (1 + 1 * j) T.f_law_alike T.fd_law_alike ["_law_found", "_law_due"] (sp0 K (clsT T P w) flds0 (m_law_alike j))) : VSs (fam0 P w K mg base N_law_alike "_law_alike" (defScope s_law_alike) T.f_law_alike (1 + 1 * j) (clsT T P w) flds0) (defBody s_law_alike) (t_law_alike j) :=
  vss_cons (vs_if (vt_val (ve_isi (T := "tuple") (fun _ => T.n_isinstance) (fun _ => T.n_tuple) (ve_name 1))) (vss_cons (vs_if (VW.vt (vw_or (vt_not (vt_val (ve_isi (T := "tuple") (fun _ => T.n_isinstance) (fun _ => T.n_tuple) (ve_name 0)))) (vw_or1 (vt_ne hu0 (ve_len (fun _ => T.n_len) (vr_cons (ve_name 0) (vr_nil))) (ve_len (fun _ => T.n_len) (vr_cons (ve_name 1) (vr_nil))))))) (vss_one (vs_ret (ve_bl))) (vss_nil)) (vss_one (vs_ret (ve_all (fun _ => T.n_all) (vr_cons (ve_lc (fun _ => sc_law_alike.nd) (vi_zip (fun _ => T.n_zip) (vr_cons (ve_name 0) (vr_cons (ve_name 1) (vr_nil)))) (fun _ => blkOk_by (own := [("_law_one", 2), ("_law_other_here", 3)]) (by show blkC N_law_alike (defScope s_law_alike) _ _ = true; decide +kernel)) (vg_tup (vgs_cons (vg_name (i := 2) (fun _ => sc_law_alike.nd)) (vgs_cons (vg_name (i := 3) (fun _ => sc_law_alike.nd)) (vgs_nil)))) (vts_nil) (ve_call0 (fun _ => R_law_alike) (fun p => p.1.hr.mono (by omega)) (hg_blk hg0) (fun _ => T.d_law_alike.g) T.d_law_alike.fn.kp T.d_law_alike.b (va_cons (ve_name 2) (va_cons (ve_name 3) (va_nil))))) (vr_nil)))))) (vss_nil)) (vss_one (vs_ret (ve_and (ve_eq hu0 (ve_isi (T := "bool") (fun _ => T.n_isinstance) (fun _ => T.n_bool) (ve_name 0)) (ve_isi (T := "bool") (fun _ => T.n_isinstance) (fun _ => T.n_bool) (ve_name 1))) (ve_one (ve_eq hu0 (ve_name 0) (ve_name 1))))))
theorem okr_law_alike : ∀ j, FnG P w K mg base CX0 (1 + 1 * j) T.f_law_alike T.fd_law_alike ["_law_found", "_law_due"] (sp0 K (clsT T P w) flds0 (m_law_alike j))
  | 0 => fn_no (sp0_no no_law_alike)
  | j + 1 => fn0 T.d_law_alike.fn sc_law_alike (w_law_alike T j (okr_law_alike j)) (len_law_alike (j + 1)) (p_law_alike j)
theorem ok_law_alike : FnG P w K mg base CX0 10 T.f_law_alike T.fd_law_alike ["_law_found", "_law_due"] (sp0 K (clsT T P w) flds0 (m_law_alike 9)) := okr_law_alike T 9
theorem w_RowText_part (j : Nat) (R_RowText_term : FnG P w K mg base CX0 (3 + 2 * j) T.f_RowText_term T.fd_RowText_term ["self"] (sp0 K (clsT T P w) flds0 (m_RowText_term j))) : VSs (fam0 P w K mg base N_RowText_part "RowText.part" (defScope s_RowText_part) T.f_RowText_part (3 + 2 * j) (clsT T P w) flds0) (defBody s_RowText_part) (t_RowText_part j) :=
  vss_cons (vs_if (vt_eq hu0 (ve_name 1) (ve_str [116, 101, 114, 109])) (vss_one (vs_ret (ve_im0 (c := 20) T.cl_RowText T.d_RowText_term.m (fun _ => R_RowText_term) (fun p => p.hr.mono (by omega)) hg0 T.d_RowText_term.b (ve_name 0)))) (vss_nil)) (vss_cons (vs_set (i := 2) (fun _ => sc_RowText_part.nd) (ve_im0 (c := 20) T.cl_RowText T.d_RowText_sign.m (fun _ => ok_RowText_sign T) (fun p => p.hr.mono (by omega)) hg0 T.d_RowText_sign.b (ve_name 0))) (vss_cons (vs_expr (ve_im (c := 20) T.cl_RowText T.d_RowText_need.m (fun _ => ok_RowText_need T) (fun p => p.hr.mono (by omega)) hg0 T.d_RowText_need.b (ve_name 0) (va_cons (ve_and (ve_ne hu0 (ve_name 2) (ve_str [])) (ve_one (ve_in hu0 (ve_name 2) (ve_dget hu0 (ve_disp2 (ve_str [116, 105, 109, 101, 115]) (ve_globS [48, 49, 50, 51, 52, 53, 54] (fun _ => T.c_TIMES)) (ve_str [108, 101, 116, 116, 101, 114]) (ve_globS SM (fun _ => T.c_SMALL))) (ve_name 1))))) (va_nil)))) (vss_cons (vs_fldZ (c := 20) T.cl_RowText T.a_RowText_at (ve_name 0) (ve_add (ve_fld (c := 20) T.cl_RowText T.a_RowText_at (ve_name 0)) (ve_int))) (vss_cons (vs_if (vt_eq hu0 (ve_name 1) (ve_str [116, 105, 109, 101, 115])) (vss_one (vs_ret (ve_intS (fun _ => T.n_int) (vr_cons (ve_name 2) (vr_nil))))) (vss_nil)) (vss_one (vs_ret (ve_name 2)))))))
theorem kr_RowText_part (j : Nat) (R_RowText_term : FnG P w K mg base CX0 (3 + 2 * j) T.f_RowText_term T.fd_RowText_term ["self"] (sp0 K (clsT T P w) flds0 (m_RowText_term j))) : FnG P w K mg base CX0 (3 + 2 * j + 1) T.f_RowText_part T.fd_RowText_part ["self", "sort"] (sp0 K (clsT T P w) flds0 (m_RowText_part j)) := fn0 T.d_RowText_part.fn sc_RowText_part (w_RowText_part T j R_RowText_term) (len_RowText_part j) (p_RowText_part j)
theorem w_RowText_term (j : Nat) (R_RowText_term : FnG P w K mg base CX0 (3 + 2 * j) T.f_RowText_term T.fd_RowText_term ["self"] (sp0 K (clsT T P w) flds0 (m_RowText_term j))) (R_RowText_part : FnG P w K mg base CX0 (3 + 2 * j + 1) T.f_RowText_part T.fd_RowText_part ["self", "sort"] (sp0 K (clsT T P w) flds0 (m_RowText_part j))) : VSs (fam0 P w K mg base N_RowText_term "RowText.term" (defScope s_RowText_term) T.f_RowText_term (3 + 2 * j + 1) (clsT T P w) flds0) (defBody s_RowText_term) (t_RowText_term j) :=
  vss_cons (vs_if (vt_eq hu0 (ve_im0 (c := 20) T.cl_RowText T.d_RowText_sign.m (fun _ => ok_RowText_sign T) (fun p => p.hr.mono (by omega)) hg0 T.d_RowText_sign.b (ve_name 0)) (ve_str [39])) (vss_cons (vs_fldZ (c := 20) T.cl_RowText T.a_RowText_at (ve_name 0) (ve_add (ve_fld (c := 20) T.cl_RowText T.a_RowText_at (ve_name 0)) (ve_int))) (vss_cons (vs_set (i := 1) (fun _ => sc_RowText_term.nd) (ve_im0 (c := 20) T.cl_RowText T.d_RowText_letters.m (fun _ => ok_RowText_letters T) (fun p => p.hr.mono (by omega)) hg0 T.d_RowText_letters.b (ve_name 0))) (vss_cons (vs_expr (ve_im (c := 20) T.cl_RowText T.d_RowText_go_past.m (fun _ => ok_RowText_go_past T) (fun p => p.hr.mono (by omega)) hg0 T.d_RowText_go_past.b (ve_name 0) (va_cons (ve_str [39]) (va_nil)))) (vss_one (vs_ret (ve_tup (va_cons (ve_str [119, 97, 108, 107]) (va_cons (ve_name 1) (va_nil))))))))) (vss_nil)) (vss_cons (vs_if (vt_ne hu0 (ve_im0 (c := 20) T.cl_RowText T.d_RowText_sign.m (fun _ => ok_RowText_sign T) (fun p => p.hr.mono (by omega)) hg0 T.d_RowText_sign.b (ve_name 0)) (ve_str [40])) (vss_cons (vs_set (i := 1) (fun _ => sc_RowText_term.nd) (ve_im0 (c := 20) T.cl_RowText T.d_RowText_letters.m (fun _ => ok_RowText_letters T) (fun p => p.hr.mono (by omega)) hg0 T.d_RowText_letters.b (ve_name 0))) (vss_cons (vs_expr (ve_im (c := 20) T.cl_RowText T.d_RowText_need.m (fun _ => ok_RowText_need T) (fun p => p.hr.mono (by omega)) hg0 T.d_RowText_need.b (ve_name 0) (va_cons (ve_call0 (fun _ => ok_is_name T) (fun p => p.hr.mono (by omega)) hg0 (fun _ => T.d_is_name.g) T.d_is_name.fn.kp T.d_is_name.b (va_cons (ve_name 1) (va_nil))) (va_nil)))) (vss_one (vs_ret (ve_tup (va_cons (ve_str [110, 97, 109, 101]) (va_cons (ve_name 1) (va_nil)))))))) (vss_nil)) (vss_cons (vs_fldZ (c := 20) T.cl_RowText T.a_RowText_at (ve_name 0) (ve_add (ve_fld (c := 20) T.cl_RowText T.a_RowText_at (ve_name 0)) (ve_int))) (vss_cons (vs_set (i := 1) (fun _ => sc_RowText_term.nd) (ve_im0 (c := 20) T.cl_RowText T.d_RowText_letters.m (fun _ => ok_RowText_letters T) (fun p => p.hr.mono (by omega)) hg0 T.d_RowText_letters.b (ve_name 0))) (vss_cons (vs_expr (ve_im (c := 20) T.cl_RowText T.d_RowText_need.m (fun _ => ok_RowText_need T) (fun p => p.hr.mono (by omega)) hg0 T.d_RowText_need.b (ve_name 0) (va_cons (ve_khas (fun _ => rfl) (fun _ => T.gd_SORTS) T.hs_SORTS (ve_name 1)) (va_nil)))) (vss_cons (vs_set (i := 2) (fun _ => sc_RowText_term.nd) (ve_lst (va_cons (ve_name 1) (va_nil)))) (vss_cons (vs_for (fun _ => PassesOwn.never) (vi_gt (fun _ => rfl) (fun _ => T.gd_SORTS) T.gt_SORTS (ve_name 1)) (vg_name (i := 3) (fun _ => sc_RowText_term.nd)) (vss_cons (vs_expr (ve_im (c := 20) T.cl_RowText T.d_RowText_go_past.m (fun _ => ok_RowText_go_past T) (fun p => p.hr.mono (by omega)) hg0 T.d_RowText_go_past.b (ve_name 0) (va_cons (ve_str [32]) (va_nil)))) (vss_one (vs_expr (ve_append (ve_name 2) (va_cons (ve_im (c := 20) T.cl_RowText T.d_RowText_part.m (fun _ => R_RowText_part) (fun p => p.hr.mono (by omega)) hg0 T.d_RowText_part.b (ve_name 0) (va_cons (ve_name 3) (va_nil))) (va_nil))))))) (vss_cons (vs_expr (ve_im (c := 20) T.cl_RowText T.d_RowText_go_past.m (fun _ => ok_RowText_go_past T) (fun p => p.hr.mono (by omega)) hg0 T.d_RowText_go_past.b (ve_name 0) (va_cons (ve_str [41]) (va_nil)))) (vss_one (vs_ret (ve_tuple (fun _ => T.n_tuple) (vr_cons (ve_name 2) (vr_nil))))))))))))
theorem okr_RowText_term : ∀ j, FnG P w K mg base CX0 (3 + 2 * j) T.f_RowText_term T.fd_RowText_term ["self"] (sp0 K (clsT T P w) flds0 (m_RowText_term j))
  | 0 => fn_no (sp0_no no_RowText_term)
  | j + 1 => fn0 T.d_RowText_term.fn sc_RowText_term (w_RowText_term T j (okr_RowText_term j) (kr_RowText_part T j (okr_RowText_term j))) (len_RowText_term (j + 1)) (p_RowText_term j)
theorem ok_RowText_term : FnG P w K mg base CX0 19 T.f_RowText_term T.fd_RowText_term ["self"] (sp0 K (clsT T P w) flds0 (m_RowText_term 8)) := okr_RowText_term T 8
theorem w_read_row : VSs (fam0 P w K mg base N_read_row "read_row" (defScope s_read_row) T.f_read_row 19 (clsT T P w) flds0) (defBody s_read_row) t_read_row :=
  vss_cons (vs_set (i := 2) (fun _ => sc_read_row.nd) (ve_split1 (ve_name 0) (vr_cons (ve_str [32, 61, 32]) (vr_cons (ve_int) (vr_nil))))) (vss_cons (vs_if (VW.vt (vw_or (vt_lt (ve_len (fun _ => T.n_len) (vr_cons (ve_name 2) (vr_nil))) (ve_int)) (vw_or1 (vt_not (vt_val (ve_call0 (fun _ => ok_is_name T) (fun p => p.hr.mono (by decide)) hg0 (fun _ => T.d_is_name.g) T.d_is_name.fn.kp T.d_is_name.b (va_cons (ve_ix (ve_name 2) (ve_int)) (va_nil)))))))) (vss_one (vs_never)) (vss_nil)) (vss_cons (vs_set (i := 3) (fun _ => sc_read_row.nd) (ve_make (c := 20) T.mk_RowText (fun _ => ok_RowText___init__ T) (fun p => p.hr.mono (by decide)) hg0 (fun _ => T.g_RowText) T.d_RowText___init__.b (va_cons (ve_ix (ve_name 2) (ve_int)) (va_cons (ve_name 1) (va_nil))))) (vss_cons (vs_set (i := 4) (fun _ => sc_read_row.nd) (ve_im0 (c := 20) T.cl_RowText T.d_RowText_term.m (fun _ => ok_RowText_term T) (fun p => p.hr.mono (by decide)) hg0 T.d_RowText_term.b (ve_name 3))) (vss_cons (vs_expr (ve_im (c := 20) T.cl_RowText T.d_RowText_need.m (fun _ => ok_RowText_need T) (fun p => p.hr.mono (by decide)) hg0 T.d_RowText_need.b (ve_name 3) (va_cons (ve_eq hu0 (ve_fld (c := 20) T.cl_RowText T.a_RowText_at (ve_name 3)) (ve_len (fun _ => T.n_len) (vr_cons (ve_ix (ve_name 2) (ve_int)) (vr_nil)))) (va_nil)))) (vss_one (vs_ret (ve_tup (va_cons (ve_ix (ve_name 2) (ve_int)) (va_cons (ve_name 4) (va_nil))))))))))
theorem ok_read_row : FnG P w K mg base CX0 20 T.f_read_row T.fd_read_row ["text", "number"] (sp0 K (clsT T P w) flds0 m_read_row) := fn0 T.d_read_row.fn sc_read_row (w_read_row T) len_read_row p_read_row
theorem w_read_program : VSs (fam0 P w K mg base N_read_program "read_program" (defScope s_read_program) T.f_read_program 20 (clsT T P w) flds0) (defBody s_read_program) t_read_program :=
  vss_one (vs_ret (ve_tuple (fun _ => T.n_tuple) (vr_cons (ve_lc (fun _ => sc_read_program.nd) (vi_enum (fun _ => T.n_enumerate) (vr_cons (ve_split (ve_name 0) (vr_cons (ve_str [10]) (vr_nil))) (vr_nil))) (fun _ => blkOk_by (own := [("number", 1), ("row", 2)]) (by show blkC N_read_program (defScope s_read_program) _ _ = true; decide +kernel)) (vg_tup (vgs_cons (vg_name (i := 1) (fun _ => sc_read_program.nd)) (vgs_cons (vg_name (i := 2) (fun _ => sc_read_program.nd)) (vgs_nil)))) (vts_nil) (ve_call0 (fun _ => ok_read_row T) (fun p => p.1.hr.mono (by decide)) (hg_blk hg0) (fun _ => T.d_read_row.g) T.d_read_row.fn.kp T.d_read_row.b (va_cons (ve_name 2) (va_cons (ve_name 1) (va_nil))))) (vr_nil))))
theorem ok_read_program : FnG P w K mg base CX0 21 T.f_read_program T.fd_read_program ["text"] (sp0 K (clsT T P w) flds0 m_read_program) := fn0 T.d_read_program.fn sc_read_program (w_read_program T) len_read_program p_read_program
theorem w_law_long_right : VSs (fam0 P w K mg base N_law_long_right "_law_long_right" (defScope s_law_long_right) T.f_law_long_right 21 (clsT T P w) flds0) (defBody s_law_long_right) t_law_long_right :=
  vss_cons (vs_par (i := 1) (j := 2) (fun _ => sc_law_long_right.nd) (va_cons (ve_call0 (fun _ => ok_law_names T) (fun p => p.hr.mono (by decide)) hg0 (fun _ => T.d_law_names.g) T.d_law_names.fn.kp T.d_law_names.b (va_cons (ve_name 0) (va_cons (ve_int) (va_nil)))) (va_cons (ve_call0 (fun _ => ok_law_pool T) (fun p => p.hr.mono (by decide)) hg0 (fun _ => T.d_law_pool.g) T.d_law_pool.fn.kp T.d_law_pool.b (va_cons (ve_name 0) (va_nil))) (va_nil)))) (vss_cons (vs_set (i := 3) (fun _ => sc_law_long_right.nd) (ve_lst (va_nil))) (vss_cons (vs_if (vt_eq hu0 (ve_call0 (fun _ => ok_law_take T) (fun p => p.hr.mono (by decide)) hg0 (fun _ => T.d_law_take.g) T.d_law_take.fn.kp T.d_law_take.b (va_cons (ve_name 0) (va_cons (ve_int) (va_nil)))) (ve_int)) (vss_one (vs_for (fun _ => PassesOwn.never) (vi_range1 (fun _ => T.n_range) (vr_cons (ve_add (ve_int) (ve_call0 (fun _ => ok_law_take T) (fun p => p.hr.mono (by decide)) hg0 (fun _ => T.d_law_take.g) T.d_law_take.fn.kp T.d_law_take.b (va_cons (ve_name 0) (va_cons (ve_int) (va_nil))))) (vr_nil))) (vg_name (i := 6) (fun _ => sc_law_long_right.nd)) (vss_one (vs_expr (ve_append (ve_name 3) (va_cons (ve_tup (va_cons (ve_ix (ve_name 1) (ve_call0 (fun _ => ok_law_take T) (fun p => p.hr.mono (by decide)) hg0 (fun _ => T.d_law_take.g) T.d_law_take.fn.kp T.d_law_take.b (va_cons (ve_name 0) (va_cons (ve_int) (va_nil))))) (va_cons (ve_tup (va_cons (ve_str [119, 97, 108, 107]) (va_cons (ve_mul (ve_ix (ve_name 2) (ve_call0 (fun _ => ok_law_take T) (fun p => p.hr.mono (by decide)) hg0 (fun _ => T.d_law_take.g) T.d_law_take.fn.kp T.d_law_take.b (va_cons (ve_name 0) (va_cons (ve_len (fun _ => T.n_len) (vr_cons (ve_name 2) (vr_nil))) (va_nil))))) (ve_call0 (fun _ => ok_law_take T) (fun p => p.hr.mono (by decide)) hg0 (fun _ => T.d_law_take.g) T.d_law_take.fn.kp T.d_law_take.b (va_cons (ve_name 0) (va_cons (ve_int) (va_nil))))) (va_nil)))) (va_nil)))) (va_nil))))))) (vss_one (vs_expr (ve_append (ve_name 3) (va_cons (ve_tup (va_cons (ve_ix (ve_name 1) (ve_int)) (va_cons (ve_tup (va_cons (ve_str [98, 97, 99, 107]) (va_cons (ve_tup (va_cons (ve_str [119, 97, 108, 107]) (va_cons (ve_mul (ve_call0 (fun _ => ok_law_walk T) (fun p => p.hr.mono (by decide)) hg0 (fun _ => T.d_law_walk.g) T.d_law_walk.fn.kp T.d_law_walk.b (va_cons (ve_name 0) (va_cons (ve_name 2) (va_nil)))) (ve_add (ve_int) (ve_call0 (fun _ => ok_law_take T) (fun p => p.hr.mono (by decide)) hg0 (fun _ => T.d_law_take.g) T.d_law_take.fn.kp T.d_law_take.b (va_cons (ve_name 0) (va_cons (ve_int) (va_nil)))))) (va_nil)))) (va_nil)))) (va_nil)))) (va_nil)))))) (vss_cons (vs_set (i := 4) (fun _ => sc_law_long_right.nd) (ve_call0 (fun _ => ok_law_text T) (fun p => p.hr.mono (by decide)) hg0 (fun _ => T.d_law_text.g) T.d_law_text.fn.kp T.d_law_text.b (va_cons (ve_name 3) (va_nil)))) (vss_cons (vs_set (i := 5) (fun _ => sc_law_long_right.nd) (ve_call0 (fun _ => ok_read_program T) (fun p => p.hr.mono (by decide)) hg0 (fun _ => T.d_read_program.g) T.d_read_program.fn.kp T.d_read_program.b (va_cons (ve_name 4) (va_nil)))) (vss_one (vs_ret (ve_and (ve_call0 (fun _ => ok_law_alike T) (fun p => p.hr.mono (by decide)) hg0 (fun _ => T.d_law_alike.g) T.d_law_alike.fn.kp T.d_law_alike.b (va_cons (ve_name 5) (va_cons (ve_tuple (fun _ => T.n_tuple) (vr_cons (ve_name 3) (vr_nil))) (va_nil)))) (ve_and (ve_eq hu0 (ve_call0 (fun _ => ok_show_program T) (fun p => p.hr.mono (by decide)) hg0 (fun _ => T.d_show_program.g) T.d_show_program.fn.kp T.d_show_program.b (va_cons (ve_name 5) (va_nil))) (ve_name 4)) (ve_one (ve_call0 (fun _ => ok_law_alike T) (fun p => p.hr.mono (by decide)) hg0 (fun _ => T.d_law_alike.g) T.d_law_alike.fn.kp T.d_law_alike.b (va_cons (ve_call0 (fun _ => ok_read_program T) (fun p => p.hr.mono (by decide)) hg0 (fun _ => T.d_read_program.g) T.d_read_program.fn.kp T.d_read_program.b (va_cons (ve_name 4) (va_nil))) (va_cons (ve_name 5) (va_nil)))))))))))))
theorem ok_law_long_right : FnG P w K mg base CX0 22 T.f_law_long_right T.fd_law_long_right ["_law_box_here"] (sp0 K (clsT T P w) flds0 m_law_long_right) := fn0 T.d_law_long_right.fn sc_law_long_right (w_law_long_right T) len_law_long_right p_law_long_right
theorem w_law : VSs (fam0 P w K mg base N_law "law" (defScope s_law) T.f_law 22 (clsT T P w) flds0) (defBody s_law) t_law :=
  vss_cons (vs_setLc (i := 1) (fun _ => sc_law.nd) (vi_range1 (fun _ => T.n_range) (vr_cons (ve_max2 (fun _ => T.n_max) (vr_cons (ve_int) (vr_cons (ve_min2 (fun _ => T.n_min) (vr_cons (ve_int) (vr_cons (ve_len (fun _ => T.n_len) (vr_cons (ve_name 0) (vr_nil))) (vr_nil)))) (vr_nil)))) (vr_nil))) (fun _ => blkOk_by (own := [("_law_k", 6)]) (by show blkC N_law (defScope s_law) _ _ = true; decide +kernel)) (vg_name (i := 6) (fun _ => sc_law.nd)) (vts_nil) (ve_call0 (fun _ => ok_law_small_program T) (fun p => p.1.hr.mono (by decide)) (hg_blk hg0) (fun _ => T.d_law_small_program.g) T.d_law_small_program.fn.kp T.d_law_small_program.b (va_cons (ve_call0 (fun _ => ok_law_box T) (fun p => p.1.hr.mono (by decide)) (hg_blk hg0) (fun _ => T.d_law_box.g) T.d_law_box.fn.kp T.d_law_box.b (va_cons (ve_name 0) (va_cons (ve_name 6) (va_nil)))) (va_nil)))) (vss_cons (vs_for (fun _ => PassesOwn.never) (vi_any (ve_add (ve_name 1) (ve_slice (ve_name 1) (vo_none) (vo_some (ve_int))))) (vg_name (i := 2) (fun _ => sc_law.nd)) (vss_cons (vs_set (i := 3) (fun _ => sc_law.nd) (ve_call0 (fun _ => ok_law_text T) (fun p => p.hr.mono (by decide)) hg0 (fun _ => T.d_law_text.g) T.d_law_text.fn.kp T.d_law_text.b (va_cons (ve_name 2) (va_nil)))) (vss_cons (vs_set (i := 4) (fun _ => sc_law.nd) (ve_call0 (fun _ => ok_show_program T) (fun p => p.hr.mono (by decide)) hg0 (fun _ => T.d_show_program.g) T.d_show_program.fn.kp T.d_show_program.b (va_cons (ve_name 2) (va_nil)))) (vss_cons (vs_if (VW.vt (vw_or (vt_not (vt_val (ve_isi (T := "str") (fun _ => T.n_isinstance) (fun _ => T.n_str) (ve_name 4)))) (vw_or1 (vt_ne hu0 (ve_name 4) (ve_name 3))))) (vss_one (vs_ret (ve_bl))) (vss_nil)) (vss_cons (vs_set (i := 5) (fun _ => sc_law.nd) (ve_call0 (fun _ => ok_read_program T) (fun p => p.hr.mono (by decide)) hg0 (fun _ => T.d_read_program.g) T.d_read_program.fn.kp T.d_read_program.b (va_cons (ve_name 3) (va_nil)))) (vss_one (vs_if (VW.vt (vw_or (vt_not (vt_val (ve_call0 (fun _ => ok_law_alike T) (fun p => p.hr.mono (by decide)) hg0 (fun _ => T.d_law_alike.g) T.d_law_alike.fn.kp T.d_law_alike.b (va_cons (ve_name 5) (va_cons (ve_name 2) (va_nil)))))) (vw_or1 (vt_ne hu0 (ve_call0 (fun _ => ok_show_program T) (fun p => p.hr.mono (by decide)) hg0 (fun _ => T.d_show_program.g) T.d_show_program.fn.kp T.d_show_program.b (va_cons (ve_name 5) (va_nil))) (ve_name 3))))) (vss_one (vs_ret (ve_bl))) (vss_nil)))))))) (vss_one (vs_ret (ve_call0 (fun _ => ok_law_long_right T) (fun p => p.hr.mono (by decide)) hg0 (fun _ => T.d_law_long_right.g) T.d_law_long_right.fn.kp T.d_law_long_right.b (va_cons (ve_call0 (fun _ => ok_law_box T) (fun p => p.hr.mono (by decide)) hg0 (fun _ => T.d_law_box.g) T.d_law_box.fn.kp T.d_law_box.b (va_cons (ve_name 0) (va_cons (ve_int) (va_nil)))) (va_nil))))))
theorem ok_law : FnG P w K mg base CX0 23 T.f_law T.fd_law ["_law_script"] (sp0 K (clsT T P w) flds0 m_law) := fn0 T.d_law.fn sc_law (w_law T) len_law p_law
end
theorem all_mk {l : PySem.W.OpenLaw} {w : World} {K : PySem.W.Frag} {h : Heap} {mg : Str → Option Value} {fa f1 f2 f3 f4 f5 f6 f7 f8 f9 f10 f11 f12 f13 f14 f15 f16 f17 : Addr} (X : K.In h) (G : h.Ns mainGlobals mg) (hfa : mg "law" = some (.ref fa))
    {od1 an1 od2 an2 od3 an3 od4 an4 od5 an5 od6 an6 od7 an7 od8 an8 od9 an9 od10 an10 od11 an11 od12 an12 od13 an13 od14 an14 od15 an15 od16 an16 od17 an17 : Option Addr} {sl1 sl2 sl3 sl4 sl5 sl6 sl7 sl8 sl9 sl10 sl11 sl12 sl13 sl14 sl15 sl16 sl17 : Array (Option Value)} {oc1 kV1 dc1 pm1 cd1 ct1 oc2 kV2 dc2 pm2 cd2 ct2 oc3 kV3 dc3 pm3 cd3 ct3 oc4 kV4 dc4 pm4 cd4 ct4 oc5 kV5 dc5 pm5 cd5 ct5 oc6 kV6 dc6 pm6 cd6 ct6 oc7 kV7 dc7 pm7 cd7 ct7 oc8 kV8 dc8 pm8 cd8 ct8 oc9 kV9 dc9 pm9 cd9 ct9 oc10 kV10 dc10 pm10 cd10 ct10 oc11 kV11 dc11 pm11 cd11 ct11 oc12 kV12 dc12 pm12 cd12 ct12 oc13 kV13 dc13 pm13 cd13 ct13 oc14 kV14 dc14 pm14 cd14 ct14 oc15 kV15 dc15 pm15 cd15 ct15 oc16 kV16 dc16 pm16 cd16 ct16 oc17 kV17 dc17 pm17 cd17 ct17 : Value} {gt1 gt2 gt3 gt4 : Tok} {C_RowText : Addr} {D_KEPT : Addr} {kn_KEPT : Nat} {kc_KEPT : Option Addr} {ks_KEPT : Array (Option Value)} {kt_KEPT_0 kt_KEPT_1 kt_KEPT_2 kt_KEPT_3 : Tok} {D_SORTS : Addr} {es_SORTS : Array DictEntry} {en_SORTS : Nat} {B_SORTS0 B_SORTS1 B_SORTS2 B_SORTS3 : Addr} {kn_SORTS0 : Nat} {kc_SORTS0 : Option Addr} {ks_SORTS0 : Array (Option Value)} {kt_SORTS0_0 kt_SORTS0_1 : Tok} {kn_SORTS1 : Nat} {kc_SORTS1 : Option Addr} {ks_SORTS1 : Array (Option Value)} {kt_SORTS1_0 : Tok} {kn_SORTS2 : Nat} {kc_SORTS2 : Option Addr} {ks_SORTS2 : Array (Option Value)} {kt_SORTS2_0 kt_SORTS2_1 : Tok} {kn_SORTS3 : Nat} {kc_SORTS3 : Option Addr} {ks_SORTS3 : Array (Option Value)} {kt_SORTS3_0 kt_SORTS3_1 kt_SORTS3_2 : Tok} {fM_RowText___init__ : Addr} {od_RowText___init__ an_RowText___init__ : Option Addr} {sl_RowText___init__ : Array (Option Value)} {oc_RowText___init__ kV_RowText___init__ dc_RowText___init__ pm_RowText___init__ cd_RowText___init__ ct_RowText___init__ : Value} {fM_RowText_need : Addr} {od_RowText_need an_RowText_need : Option Addr} {sl_RowText_need : Array (Option Value)} {oc_RowText_need kV_RowText_need dc_RowText_need pm_RowText_need cd_RowText_need ct_RowText_need : Value} {fM_RowText_sign : Addr} {od_RowText_sign an_RowText_sign : Option Addr} {sl_RowText_sign : Array (Option Value)} {oc_RowText_sign kV_RowText_sign dc_RowText_sign pm_RowText_sign cd_RowText_sign ct_RowText_sign : Value} {fM_RowText_go_past : Addr} {od_RowText_go_past an_RowText_go_past : Option Addr} {sl_RowText_go_past : Array (Option Value)} {oc_RowText_go_past kV_RowText_go_past dc_RowText_go_past pm_RowText_go_past cd_RowText_go_past ct_RowText_go_past : Value} {fM_RowText_letters : Addr} {od_RowText_letters an_RowText_letters : Option Addr} {sl_RowText_letters : Array (Option Value)} {oc_RowText_letters kV_RowText_letters dc_RowText_letters pm_RowText_letters cd_RowText_letters ct_RowText_letters : Value} {fM_RowText_part : Addr} {od_RowText_part an_RowText_part : Option Addr} {sl_RowText_part : Array (Option Value)} {oc_RowText_part kV_RowText_part dc_RowText_part pm_RowText_part cd_RowText_part ct_RowText_part : Value} {fM_RowText_term : Addr} {od_RowText_term an_RowText_term : Option Addr} {sl_RowText_term : Array (Option Value)} {oc_RowText_term kV_RowText_term dc_RowText_term pm_RowText_term cd_RowText_term ct_RowText_term : Value}
        (a1 : PySem.W.nsIn K mainGlobals "is_name" = some (some (.ref f1))) (l1 : K.lookup f1 = some ⟨oc1, od1, .func (PySem.W.fnOf "is_name" "is_name" (defArgs s_is_name) (defBody s_is_name) (defScope s_is_name) .none kV1 dc1 pm1 an1 cd1 ct1), sl1⟩) (c1 : PySem.W.codeIn K cd1 "is_name" = true) (k1 : PySem.W.keepIn K (.ref f1) = true)
    (a2 : PySem.W.nsIn K mainGlobals "show_term" = some (some (.ref f2))) (l2 : K.lookup f2 = some ⟨oc2, od2, .func (PySem.W.fnOf "show_term" "show_term" (defArgs s_show_term) (defBody s_show_term) (defScope s_show_term) .none kV2 dc2 pm2 an2 cd2 ct2), sl2⟩) (c2 : PySem.W.codeIn K cd2 "show_term" = true) (k2 : PySem.W.keepIn K (.ref f2) = true)
    (a3 : PySem.W.nsIn K mainGlobals "show_program" = some (some (.ref f3))) (l3 : K.lookup f3 = some ⟨oc3, od3, .func (PySem.W.fnOf "show_program" "show_program" (defArgs s_show_program) (defBody s_show_program) (defScope s_show_program) .none kV3 dc3 pm3 an3 cd3 ct3), sl3⟩) (c3 : PySem.W.codeIn K cd3 "show_program" = true) (k3 : PySem.W.keepIn K (.ref f3) = true)
    (a4 : PySem.W.nsIn K mainGlobals "read_row" = some (some (.ref f4))) (l4 : K.lookup f4 = some ⟨oc4, od4, .func (PySem.W.fnOf "read_row" "read_row" (defArgs s_read_row) (defBody s_read_row) (defScope s_read_row) .none kV4 dc4 pm4 an4 cd4 ct4), sl4⟩) (c4 : PySem.W.codeIn K cd4 "read_row" = true) (k4 : PySem.W.keepIn K (.ref f4) = true)
    (a5 : PySem.W.nsIn K mainGlobals "read_program" = some (some (.ref f5))) (l5 : K.lookup f5 = some ⟨oc5, od5, .func (PySem.W.fnOf "read_program" "read_program" (defArgs s_read_program) (defBody s_read_program) (defScope s_read_program) .none kV5 dc5 pm5 an5 cd5 ct5), sl5⟩) (c5 : PySem.W.codeIn K cd5 "read_program" = true) (k5 : PySem.W.keepIn K (.ref f5) = true)
    (a6 : PySem.W.nsIn K mainGlobals "_law_box" = some (some (.ref f6))) (l6 : K.lookup f6 = some ⟨oc6, od6, .func (PySem.W.fnOf "_law_box" "_law_box" (defArgs s_law_box) (defBody s_law_box) (defScope s_law_box) .none kV6 dc6 pm6 an6 cd6 ct6), sl6⟩) (c6 : PySem.W.codeIn K cd6 "_law_box" = true) (k6 : PySem.W.keepIn K (.ref f6) = true)
    (a7 : PySem.W.nsIn K mainGlobals "_law_take" = some (some (.ref f7))) (l7 : K.lookup f7 = some ⟨oc7, od7, .func (PySem.W.fnOf "_law_take" "_law_take" (defArgs s_law_take) (defBody s_law_take) (defScope s_law_take) .none kV7 dc7 pm7 an7 cd7 ct7), sl7⟩) (c7 : PySem.W.codeIn K cd7 "_law_take" = true) (k7 : PySem.W.keepIn K (.ref f7) = true)
    (a8 : PySem.W.nsIn K mainGlobals "_law_names" = some (some (.ref f8))) (l8 : K.lookup f8 = some ⟨oc8, od8, .func (PySem.W.fnOf "_law_names" "_law_names" (defArgs s_law_names) (defBody s_law_names) (defScope s_law_names) .none kV8 dc8 pm8 an8 cd8 ct8), sl8⟩) (c8 : PySem.W.codeIn K cd8 "_law_names" = true) (k8 : PySem.W.keepIn K (.ref f8) = true)
    (a9 : PySem.W.nsIn K mainGlobals "_law_pool" = some (some (.ref f9))) (l9 : K.lookup f9 = some ⟨oc9, od9, .func (PySem.W.fnOf "_law_pool" "_law_pool" (defArgs s_law_pool) (defBody s_law_pool) (defScope s_law_pool) .none kV9 dc9 pm9 an9 cd9 ct9), sl9⟩) (c9 : PySem.W.codeIn K cd9 "_law_pool" = true) (k9 : PySem.W.keepIn K (.ref f9) = true)
    (a10 : PySem.W.nsIn K mainGlobals "_law_walk" = some (some (.ref f10))) (l10 : K.lookup f10 = some ⟨oc10, od10, .func (PySem.W.fnOf "_law_walk" "_law_walk" (defArgs s_law_walk) (defBody s_law_walk) (defScope s_law_walk) .none kV10 dc10 pm10 an10 cd10 ct10), sl10⟩) (c10 : PySem.W.codeIn K cd10 "_law_walk" = true) (k10 : PySem.W.keepIn K (.ref f10) = true)
    (a11 : PySem.W.nsIn K mainGlobals "_law_term" = some (some (.ref f11))) (l11 : K.lookup f11 = some ⟨oc11, od11, .func (PySem.W.fnOf "_law_term" "_law_term" (defArgs s_law_term) (defBody s_law_term) (defScope s_law_term) .none kV11 dc11 pm11 an11 cd11 ct11), sl11⟩) (c11 : PySem.W.codeIn K cd11 "_law_term" = true) (k11 : PySem.W.keepIn K (.ref f11) = true)
    (a12 : PySem.W.nsIn K mainGlobals "_law_term_text" = some (some (.ref f12))) (l12 : K.lookup f12 = some ⟨oc12, od12, .func (PySem.W.fnOf "_law_term_text" "_law_term_text" (defArgs s_law_term_text) (defBody s_law_term_text) (defScope s_law_term_text) .none kV12 dc12 pm12 an12 cd12 ct12), sl12⟩) (c12 : PySem.W.codeIn K cd12 "_law_term_text" = true) (k12 : PySem.W.keepIn K (.ref f12) = true)
    (a13 : PySem.W.nsIn K mainGlobals "_law_text" = some (some (.ref f13))) (l13 : K.lookup f13 = some ⟨oc13, od13, .func (PySem.W.fnOf "_law_text" "_law_text" (defArgs s_law_text) (defBody s_law_text) (defScope s_law_text) .none kV13 dc13 pm13 an13 cd13 ct13), sl13⟩) (c13 : PySem.W.codeIn K cd13 "_law_text" = true) (k13 : PySem.W.keepIn K (.ref f13) = true)
    (a14 : PySem.W.nsIn K mainGlobals "_law_small_program" = some (some (.ref f14))) (l14 : K.lookup f14 = some ⟨oc14, od14, .func (PySem.W.fnOf "_law_small_program" "_law_small_program" (defArgs s_law_small_program) (defBody s_law_small_program) (defScope s_law_small_program) .none kV14 dc14 pm14 an14 cd14 ct14), sl14⟩) (c14 : PySem.W.codeIn K cd14 "_law_small_program" = true) (k14 : PySem.W.keepIn K (.ref f14) = true)
    (a15 : PySem.W.nsIn K mainGlobals "_law_alike" = some (some (.ref f15))) (l15 : K.lookup f15 = some ⟨oc15, od15, .func (PySem.W.fnOf "_law_alike" "_law_alike" (defArgs s_law_alike) (defBody s_law_alike) (defScope s_law_alike) .none kV15 dc15 pm15 an15 cd15 ct15), sl15⟩) (c15 : PySem.W.codeIn K cd15 "_law_alike" = true) (k15 : PySem.W.keepIn K (.ref f15) = true)
    (a16 : PySem.W.nsIn K mainGlobals "_law_long_right" = some (some (.ref f16))) (l16 : K.lookup f16 = some ⟨oc16, od16, .func (PySem.W.fnOf "_law_long_right" "_law_long_right" (defArgs s_law_long_right) (defBody s_law_long_right) (defScope s_law_long_right) .none kV16 dc16 pm16 an16 cd16 ct16), sl16⟩) (c16 : PySem.W.codeIn K cd16 "_law_long_right" = true) (k16 : PySem.W.keepIn K (.ref f16) = true)
    (a17 : PySem.W.nsIn K mainGlobals "law" = some (some (.ref f17))) (l17 : K.lookup f17 = some ⟨oc17, od17, .func (PySem.W.fnOf "law" "law" (defArgs s_law) (defBody s_law) (defScope s_law) .none kV17 dc17 pm17 an17 cd17 ct17), sl17⟩) (c17 : PySem.W.codeIn K cd17 "law" = true) (k17 : PySem.W.keepIn K (.ref f17) = true)
    (b1 : PySem.W.nsIn K mainGlobals "all" = some none) (b2 : PySem.W.nsIn K mainGlobals "bool" = some none) (b3 : PySem.W.nsIn K mainGlobals "enumerate" = some none) (b4 : PySem.W.nsIn K mainGlobals "int" = some none) (b5 : PySem.W.nsIn K mainGlobals "isinstance" = some none) (b6 : PySem.W.nsIn K mainGlobals "len" = some none) (b7 : PySem.W.nsIn K mainGlobals "max" = some none) (b8 : PySem.W.nsIn K mainGlobals "min" = some none) (b9 : PySem.W.nsIn K mainGlobals "range" = some none) (b10 : PySem.W.nsIn K mainGlobals "str" = some none) (b11 : PySem.W.nsIn K mainGlobals "tuple" = some none) (b12 : PySem.W.nsIn K mainGlobals "zip" = some none) (g1 : PySem.W.nsIn K mainGlobals "SMALL" = some (some (.str "abcdefghijklmnopqrstuvwxyz" gt1))) (g2 : PySem.W.nsIn K mainGlobals "LETTERS" = some (some (.str "abcdefghijklmnopqrstuvwxyzABCDEFGHIJKLMNOPQRSTUVWXYZ" gt2))) (g3 : PySem.W.nsIn K mainGlobals "MOST_SIGNS" = some (some (.int 6 gt3))) (g4 : PySem.W.nsIn K mainGlobals "TIMES" = some (some (.str "0123456" gt4))) (ga_KEPT : PySem.W.nsIn K mainGlobals "KEPT" = some (some (.ref D_KEPT))) (kl_KEPT : K.lookup D_KEPT = some ⟨.type "tuple", kc_KEPT, .seq #[.str "then" kt_KEPT_0, .str "back" kt_KEPT_1, .str "again" kt_KEPT_2, .str "for" kt_KEPT_3] kn_KEPT, ks_KEPT⟩) (ga_SORTS : PySem.W.nsIn K mainGlobals "SORTS" = some (some (.ref D_SORTS))) (gl_SORTS : K.lookup D_SORTS = some ⟨.type "dict", none, .dict es_SORTS en_SORTS, #[]⟩) (gy_SORTS : PySem.W.KeysLit w.params es_SORTS.toList) (gw_SORTS : (D_SORTS == sysModules) = false) (ge_SORTS0 : PySem.W.nsIn K D_SORTS "then" = some (some (.ref B_SORTS0))) (kl_SORTS0 : K.lookup B_SORTS0 = some ⟨.type "tuple", kc_SORTS0, .seq #[.str "term" kt_SORTS0_0, .str "term" kt_SORTS0_1] kn_SORTS0, ks_SORTS0⟩) (ge_SORTS1 : PySem.W.nsIn K D_SORTS "back" = some (some (.ref B_SORTS1))) (kl_SORTS1 : K.lookup B_SORTS1 = some ⟨.type "tuple", kc_SORTS1, .seq #[.str "term" kt_SORTS1_0] kn_SORTS1, ks_SORTS1⟩) (ge_SORTS2 : PySem.W.nsIn K D_SORTS "again" = some (some (.ref B_SORTS2))) (kl_SORTS2 : K.lookup B_SORTS2 = some ⟨.type "tuple", kc_SORTS2, .seq #[.str "times" kt_SORTS2_0, .str "term" kt_SORTS2_1] kn_SORTS2, ks_SORTS2⟩) (ge_SORTS3 : PySem.W.nsIn K D_SORTS "for" = some (some (.ref B_SORTS3))) (kl_SORTS3 : K.lookup B_SORTS3 = some ⟨.type "tuple", kc_SORTS3, .seq #[.str "letter" kt_SORTS3_0, .str "term" kt_SORTS3_1, .str "term" kt_SORTS3_2] kn_SORTS3, ks_SORTS3⟩) (u_RowText : PySem.W.nsIn K mainGlobals "RowText" = some (some (.ref C_RowText))) (am_RowText___init__ : PySem.W.findIn K (.ref C_RowText) "__init__" = some (some (.ref fM_RowText___init__))) (lm_RowText___init__ : K.lookup fM_RowText___init__ = some ⟨oc_RowText___init__, od_RowText___init__, .func (PySem.W.fnOf "__init__" "RowText.__init__" (defArgs s_RowText___init__) (defBody s_RowText___init__) (defScope s_RowText___init__) .none kV_RowText___init__ dc_RowText___init__ pm_RowText___init__ an_RowText___init__ cd_RowText___init__ ct_RowText___init__), sl_RowText___init__⟩) (cm_RowText___init__ : PySem.W.codeIn K cd_RowText___init__ "RowText.__init__" = true) (km_RowText___init__ : PySem.W.keepIn K (.ref fM_RowText___init__) = true) (nm_RowText___init__ : PySem.W.isFn K (.ref fM_RowText___init__) = true) (am_RowText_need : PySem.W.findIn K (.ref C_RowText) "need" = some (some (.ref fM_RowText_need))) (lm_RowText_need : K.lookup fM_RowText_need = some ⟨oc_RowText_need, od_RowText_need, .func (PySem.W.fnOf "need" "RowText.need" (defArgs s_RowText_need) (defBody s_RowText_need) (defScope s_RowText_need) .none kV_RowText_need dc_RowText_need pm_RowText_need an_RowText_need cd_RowText_need ct_RowText_need), sl_RowText_need⟩) (cm_RowText_need : PySem.W.codeIn K cd_RowText_need "RowText.need" = true) (km_RowText_need : PySem.W.keepIn K (.ref fM_RowText_need) = true) (nm_RowText_need : PySem.W.isFn K (.ref fM_RowText_need) = true) (am_RowText_sign : PySem.W.findIn K (.ref C_RowText) "sign" = some (some (.ref fM_RowText_sign))) (lm_RowText_sign : K.lookup fM_RowText_sign = some ⟨oc_RowText_sign, od_RowText_sign, .func (PySem.W.fnOf "sign" "RowText.sign" (defArgs s_RowText_sign) (defBody s_RowText_sign) (defScope s_RowText_sign) .none kV_RowText_sign dc_RowText_sign pm_RowText_sign an_RowText_sign cd_RowText_sign ct_RowText_sign), sl_RowText_sign⟩) (cm_RowText_sign : PySem.W.codeIn K cd_RowText_sign "RowText.sign" = true) (km_RowText_sign : PySem.W.keepIn K (.ref fM_RowText_sign) = true) (nm_RowText_sign : PySem.W.isFn K (.ref fM_RowText_sign) = true) (am_RowText_go_past : PySem.W.findIn K (.ref C_RowText) "go_past" = some (some (.ref fM_RowText_go_past))) (lm_RowText_go_past : K.lookup fM_RowText_go_past = some ⟨oc_RowText_go_past, od_RowText_go_past, .func (PySem.W.fnOf "go_past" "RowText.go_past" (defArgs s_RowText_go_past) (defBody s_RowText_go_past) (defScope s_RowText_go_past) .none kV_RowText_go_past dc_RowText_go_past pm_RowText_go_past an_RowText_go_past cd_RowText_go_past ct_RowText_go_past), sl_RowText_go_past⟩) (cm_RowText_go_past : PySem.W.codeIn K cd_RowText_go_past "RowText.go_past" = true) (km_RowText_go_past : PySem.W.keepIn K (.ref fM_RowText_go_past) = true) (nm_RowText_go_past : PySem.W.isFn K (.ref fM_RowText_go_past) = true) (am_RowText_letters : PySem.W.findIn K (.ref C_RowText) "letters" = some (some (.ref fM_RowText_letters))) (lm_RowText_letters : K.lookup fM_RowText_letters = some ⟨oc_RowText_letters, od_RowText_letters, .func (PySem.W.fnOf "letters" "RowText.letters" (defArgs s_RowText_letters) (defBody s_RowText_letters) (defScope s_RowText_letters) .none kV_RowText_letters dc_RowText_letters pm_RowText_letters an_RowText_letters cd_RowText_letters ct_RowText_letters), sl_RowText_letters⟩) (cm_RowText_letters : PySem.W.codeIn K cd_RowText_letters "RowText.letters" = true) (km_RowText_letters : PySem.W.keepIn K (.ref fM_RowText_letters) = true) (nm_RowText_letters : PySem.W.isFn K (.ref fM_RowText_letters) = true) (am_RowText_part : PySem.W.findIn K (.ref C_RowText) "part" = some (some (.ref fM_RowText_part))) (lm_RowText_part : K.lookup fM_RowText_part = some ⟨oc_RowText_part, od_RowText_part, .func (PySem.W.fnOf "part" "RowText.part" (defArgs s_RowText_part) (defBody s_RowText_part) (defScope s_RowText_part) .none kV_RowText_part dc_RowText_part pm_RowText_part an_RowText_part cd_RowText_part ct_RowText_part), sl_RowText_part⟩) (cm_RowText_part : PySem.W.codeIn K cd_RowText_part "RowText.part" = true) (km_RowText_part : PySem.W.keepIn K (.ref fM_RowText_part) = true) (nm_RowText_part : PySem.W.isFn K (.ref fM_RowText_part) = true) (am_RowText_term : PySem.W.findIn K (.ref C_RowText) "term" = some (some (.ref fM_RowText_term))) (lm_RowText_term : K.lookup fM_RowText_term = some ⟨oc_RowText_term, od_RowText_term, .func (PySem.W.fnOf "term" "RowText.term" (defArgs s_RowText_term) (defBody s_RowText_term) (defScope s_RowText_term) .none kV_RowText_term dc_RowText_term pm_RowText_term an_RowText_term cd_RowText_term ct_RowText_term), sl_RowText_term⟩) (cm_RowText_term : PySem.W.codeIn K cd_RowText_term "RowText.term" = true) (km_RowText_term : PySem.W.keepIn K (.ref fM_RowText_term) = true) (nm_RowText_term : PySem.W.isFn K (.ref fM_RowText_term) = true) (cg_RowText : PySem.W.plainGet K C_RowText Str.empty = true) (ch_RowText : PySem.W.hasDictIn K C_RowText = true) (co_RowText : PySem.W.plainOver K C_RowText = true) (cs_RowText : PySem.W.findIn K (.ref C_RowText) "__setattr__" = some (some (.builtin "object.__setattr__"))) (cx_RowText : PySem.W.makesIn K C_RowText = true) (ck_RowText : PySem.W.keepIn K (.ref C_RowText) = true) (at_RowText_at : PySem.W.findIn K (.ref C_RowText) "at" = some none) (at_RowText_row : PySem.W.findIn K (.ref C_RowText) "row" = some none) (at_RowText_text : PySem.W.findIn K (.ref C_RowText) "text" = some none) :
    ∃ fd : FuncData, (∀ (s : Shared) (v : Value), BindsTo s fd ⟨[v], []⟩ [("_law_script", v)]) ∧ ∀ base : Heap, K.In base → base.Ns mainGlobals mg → FnG l.prog w K mg base CX0 23 fa fd ["_law_script"] (spLaw K) := by
  have e := hfa.symm.trans (PySem.W.mg_of X G a17)
  cases e
  have F1 := fun_mk (st := s_is_name) l1 c1 k1
  have B1 := F1.binds (ps := ["text"]) fun _ _ _ _ _ _ us hl => match us, hl with | [_], _ => rfl
  have F2 := fun_mk (st := s_show_term) l2 c2 k2
  have B2 := F2.binds (ps := ["term"]) fun _ _ _ _ _ _ us hl => match us, hl with | [_], _ => rfl
  have F3 := fun_mk (st := s_show_program) l3 c3 k3
  have B3 := F3.binds (ps := ["program"]) fun _ _ _ _ _ _ us hl => match us, hl with | [_], _ => rfl
  have F4 := fun_mk (st := s_read_row) l4 c4 k4
  have B4 := F4.binds (ps := ["text", "number"]) fun _ _ _ _ _ _ us hl => match us, hl with | [_, _], _ => rfl
  have F5 := fun_mk (st := s_read_program) l5 c5 k5
  have B5 := F5.binds (ps := ["text"]) fun _ _ _ _ _ _ us hl => match us, hl with | [_], _ => rfl
  have F6 := fun_mk (st := s_law_box) l6 c6 k6
  have B6 := F6.binds (ps := ["_law_script", "_law_k"]) fun _ _ _ _ _ _ us hl => match us, hl with | [_, _], _ => rfl
  have F7 := fun_mk (st := s_law_take) l7 c7 k7
  have B7 := F7.binds (ps := ["_law_box_here", "_law_many"]) fun _ _ _ _ _ _ us hl => match us, hl with | [_, _], _ => rfl
  have F8 := fun_mk (st := s_law_names) l8 c8 k8
  have B8 := F8.binds (ps := ["_law_box_here", "_law_many"]) fun _ _ _ _ _ _ us hl => match us, hl with | [_, _], _ => rfl
  have F9 := fun_mk (st := s_law_pool) l9 c9 k9
  have B9 := F9.binds (ps := ["_law_box_here"]) fun _ _ _ _ _ _ us hl => match us, hl with | [_], _ => rfl
  have F10 := fun_mk (st := s_law_walk) l10 c10 k10
  have B10 := F10.binds (ps := ["_law_box_here", "_law_pool_here"]) fun _ _ _ _ _ _ us hl => match us, hl with | [_, _], _ => rfl
  have F11 := fun_mk (st := s_law_term) l11 c11 k11
  have B11 := F11.binds (ps := ["_law_box_here", "_law_known", "_law_pool_here", "_law_room", "_law_deep"]) fun _ _ _ _ _ _ us hl => match us, hl with | [_, _, _, _, _], _ => rfl
  have F12 := fun_mk (st := s_law_term_text) l12 c12 k12
  have B12 := F12.binds (ps := ["_law_term_here"]) fun _ _ _ _ _ _ us hl => match us, hl with | [_], _ => rfl
  have F13 := fun_mk (st := s_law_text) l13 c13 k13
  have B13 := F13.binds (ps := ["_law_program"]) fun _ _ _ _ _ _ us hl => match us, hl with | [_], _ => rfl
  have F14 := fun_mk (st := s_law_small_program) l14 c14 k14
  have B14 := F14.binds (ps := ["_law_box_here"]) fun _ _ _ _ _ _ us hl => match us, hl with | [_], _ => rfl
  have F15 := fun_mk (st := s_law_alike) l15 c15 k15
  have B15 := F15.binds (ps := ["_law_found", "_law_due"]) fun _ _ _ _ _ _ us hl => match us, hl with | [_, _], _ => rfl
  have F16 := fun_mk (st := s_law_long_right) l16 c16 k16
  have B16 := F16.binds (ps := ["_law_box_here"]) fun _ _ _ _ _ _ us hl => match us, hl with | [_], _ => rfl
  have F17 := fun_mk (st := s_law) l17 c17 k17
  have B17 := F17.binds (ps := ["_law_script"]) fun _ _ _ _ _ _ us hl => match us, hl with | [_], _ => rfl
  have FM_RowText___init__ := fun_mk (st := s_RowText___init__) lm_RowText___init__ cm_RowText___init__ km_RowText___init__
  have BM_RowText___init__ := FM_RowText___init__.binds (ps := ["self", "text", "row"]) fun _ _ _ _ _ _ us hl => match us, hl with | [_, _, _], _ => rfl
  have FM_RowText_need := fun_mk (st := s_RowText_need) lm_RowText_need cm_RowText_need km_RowText_need
  have BM_RowText_need := FM_RowText_need.binds (ps := ["self", "good"]) fun _ _ _ _ _ _ us hl => match us, hl with | [_, _], _ => rfl
  have FM_RowText_sign := fun_mk (st := s_RowText_sign) lm_RowText_sign cm_RowText_sign km_RowText_sign
  have BM_RowText_sign := FM_RowText_sign.binds (ps := ["self"]) fun _ _ _ _ _ _ us hl => match us, hl with | [_], _ => rfl
  have FM_RowText_go_past := fun_mk (st := s_RowText_go_past) lm_RowText_go_past cm_RowText_go_past km_RowText_go_past
  have BM_RowText_go_past := FM_RowText_go_past.binds (ps := ["self", "sign"]) fun _ _ _ _ _ _ us hl => match us, hl with | [_, _], _ => rfl
  have FM_RowText_letters := fun_mk (st := s_RowText_letters) lm_RowText_letters cm_RowText_letters km_RowText_letters
  have BM_RowText_letters := FM_RowText_letters.binds (ps := ["self"]) fun _ _ _ _ _ _ us hl => match us, hl with | [_], _ => rfl
  have FM_RowText_part := fun_mk (st := s_RowText_part) lm_RowText_part cm_RowText_part km_RowText_part
  have BM_RowText_part := FM_RowText_part.binds (ps := ["self", "sort"]) fun _ _ _ _ _ _ us hl => match us, hl with | [_, _], _ => rfl
  have FM_RowText_term := fun_mk (st := s_RowText_term) lm_RowText_term cm_RowText_term km_RowText_term
  have BM_RowText_term := FM_RowText_term.binds (ps := ["self"]) fun _ _ _ _ _ _ us hl => match us, hl with | [_], _ => rfl
  let T : Tx K mg w := ⟨_, _, ⟨F1, B1, PySem.W.mg_of X G a1⟩, _, _, ⟨F2, B2, PySem.W.mg_of X G a2⟩, _, _, ⟨F3, B3, PySem.W.mg_of X G a3⟩, _, _, ⟨F4, B4, PySem.W.mg_of X G a4⟩, _, _, ⟨F5, B5, PySem.W.mg_of X G a5⟩, _, _, ⟨F6, B6, PySem.W.mg_of X G a6⟩, _, _, ⟨F7, B7, PySem.W.mg_of X G a7⟩, _, _, ⟨F8, B8, PySem.W.mg_of X G a8⟩, _, _, ⟨F9, B9, PySem.W.mg_of X G a9⟩, _, _, ⟨F10, B10, PySem.W.mg_of X G a10⟩, _, _, ⟨F11, B11, PySem.W.mg_of X G a11⟩, _, _, ⟨F12, B12, PySem.W.mg_of X G a12⟩, _, _, ⟨F13, B13, PySem.W.mg_of X G a13⟩, _, _, ⟨F14, B14, PySem.W.mg_of X G a14⟩, _, _, ⟨F15, B15, PySem.W.mg_of X G a15⟩, _, _, ⟨F16, B16, PySem.W.mg_of X G a16⟩, _, _, ⟨F17, B17, PySem.W.mg_of X G a17⟩, _, PySem.W.mg_of X G u_RowText, _, _, ⟨FM_RowText___init__, BM_RowText___init__, ⟨am_RowText___init__, nm_RowText___init__, km_RowText___init__⟩⟩, _, _, ⟨FM_RowText_need, BM_RowText_need, ⟨am_RowText_need, nm_RowText_need, km_RowText_need⟩⟩, _, _, ⟨FM_RowText_sign, BM_RowText_sign, ⟨am_RowText_sign, nm_RowText_sign, km_RowText_sign⟩⟩, _, _, ⟨FM_RowText_go_past, BM_RowText_go_past, ⟨am_RowText_go_past, nm_RowText_go_past, km_RowText_go_past⟩⟩, _, _, ⟨FM_RowText_letters, BM_RowText_letters, ⟨am_RowText_letters, nm_RowText_letters, km_RowText_letters⟩⟩, _, _, ⟨FM_RowText_part, BM_RowText_part, ⟨am_RowText_part, nm_RowText_part, km_RowText_part⟩⟩, _, _, ⟨FM_RowText_term, BM_RowText_term, ⟨am_RowText_term, nm_RowText_term, km_RowText_term⟩⟩, ⟨cg_RowText, ch_RowText, co_RowText, cs_RowText⟩, ⟨cx_RowText, am_RowText___init__, nm_RowText___init__, ck_RowText⟩, at_RowText_at, at_RowText_row, at_RowText_text, PySem.W.mg_none_of X G b1, PySem.W.mg_none_of X G b2, PySem.W.mg_none_of X G b3, PySem.W.mg_none_of X G b4, PySem.W.mg_none_of X G b5, PySem.W.mg_none_of X G b6, PySem.W.mg_none_of X G b7, PySem.W.mg_none_of X G b8, PySem.W.mg_none_of X G b9, PySem.W.mg_none_of X G b10, PySem.W.mg_none_of X G b11, PySem.W.mg_none_of X G b12, _, PySem.W.mg_of X G g1, _, PySem.W.mg_of X G g2, _, PySem.W.mg_of X G g3, _, PySem.W.mg_of X G g4, _, PySem.W.mg_of X G ga_KEPT, kt_of kl_KEPT (kv_cons (by decide +kernel) (kv_cons (by decide +kernel) (kv_cons (by decide +kernel) (kv_cons (by decide +kernel) (kv_nil))))) rfl, _, PySem.W.mg_of X G ga_SORTS, gt_cons gl_SORTS gy_SORTS ge_SORTS0 (kt_of kl_SORTS0 (kv_cons (by decide +kernel) (kv_cons (by decide +kernel) (kv_nil))) rfl) (by decide +kernel) (gt_cons gl_SORTS gy_SORTS ge_SORTS1 (kt_of kl_SORTS1 (kv_cons (by decide +kernel) (kv_nil)) rfl) (by decide +kernel) (gt_cons gl_SORTS gy_SORTS ge_SORTS2 (kt_of kl_SORTS2 (kv_cons (by decide +kernel) (kv_cons (by decide +kernel) (kv_nil))) rfl) (by decide +kernel) (gt_cons gl_SORTS gy_SORTS ge_SORTS3 (kt_of kl_SORTS3 (kv_cons (by decide +kernel) (kv_cons (by decide +kernel) (kv_cons (by decide +kernel) (kv_nil)))) rfl) (by decide +kernel) (gt_nil)))), khas_cons ge_SORTS0 (by decide +kernel) (khas_cons ge_SORTS1 (by decide +kernel) (khas_cons ge_SORTS2 (by decide +kernel) (khas_cons ge_SORTS3 (by decide +kernel) (khas_nil gl_SORTS gy_SORTS gw_SORTS))))⟩
  exact ⟨_, fun s v => .of_eq rfl, fun base _ _ => Pu.FnG.lawS (cls := clsT T l.prog w) (flds := flds0) law_m (ok_law T)⟩
end Lw
set_option maxRecDepth 100000 in
set_option maxHeartbeats 0 in
theorem PySem.Challenge.cw_mustmeet_k60_programs_as_texts_holds : PySem.Challenge.rw_mustmeet_k60_programs_as_texts.Holds := by
  w_on; o_law; k_head; (case hw => w_witness2)
  k_fill
  refine Pu.walk (k := 23) ⟨rfl, by decide, by decide⟩ (l := PySem.Challenge.rw_mustmeet_k60_programs_as_texts) rfl rfl (fun w h Y => PySem.W.kIn_of Y) ?F
  case F =>
    intro w mg fa h KX G hmg
    refine' Lw.all_mk KX G hmg ?a1 ?l1 ?c1 ?k1 ?a2 ?l2 ?c2 ?k2 ?a3 ?l3 ?c3 ?k3 ?a4 ?l4 ?c4 ?k4 ?a5 ?l5 ?c5 ?k5 ?a6 ?l6 ?c6 ?k6 ?a7 ?l7 ?c7 ?k7 ?a8 ?l8 ?c8 ?k8 ?a9 ?l9 ?c9 ?k9 ?a10 ?l10 ?c10 ?k10 ?a11 ?l11 ?c11 ?k11 ?a12 ?l12 ?c12 ?k12 ?a13 ?l13 ?c13 ?k13 ?a14 ?l14 ?c14 ?k14 ?a15 ?l15 ?c15 ?k15 ?a16 ?l16 ?c16 ?k16 ?a17 ?l17 ?c17 ?k17 ?b1 ?b2 ?b3 ?b4 ?b5 ?b6 ?b7 ?b8 ?b9 ?b10 ?b11 ?b12 ?g1 ?g2 ?g3 ?g4 ?ga_KEPT ?kl_KEPT ?ga_SORTS ?gl_SORTS ?gy_SORTS ?gw_SORTS ?ge_SORTS0 ?kl_SORTS0 ?ge_SORTS1 ?kl_SORTS1 ?ge_SORTS2 ?kl_SORTS2 ?ge_SORTS3 ?kl_SORTS3 ?u_RowText ?am_RowText___init__ ?lm_RowText___init__ ?cm_RowText___init__ ?km_RowText___init__ ?nm_RowText___init__ ?am_RowText_need ?lm_RowText_need ?cm_RowText_need ?km_RowText_need ?nm_RowText_need ?am_RowText_sign ?lm_RowText_sign ?cm_RowText_sign ?km_RowText_sign ?nm_RowText_sign ?am_RowText_go_past ?lm_RowText_go_past ?cm_RowText_go_past ?km_RowText_go_past ?nm_RowText_go_past ?am_RowText_letters ?lm_RowText_letters ?cm_RowText_letters ?km_RowText_letters ?nm_RowText_letters ?am_RowText_part ?lm_RowText_part ?cm_RowText_part ?km_RowText_part ?nm_RowText_part ?am_RowText_term ?lm_RowText_term ?cm_RowText_term ?km_RowText_term ?nm_RowText_term ?cg_RowText ?ch_RowText ?co_RowText ?cs_RowText ?cx_RowText ?ck_RowText ?at_RowText_at ?at_RowText_row ?at_RowText_text
    (case a1 => k_is); (case l1 => k_is); (case c1 => k_is); (case k1 => k_is); (case a2 => k_is); (case l2 => k_is); (case c2 => k_is); (case k2 => k_is); (case a3 => k_is); (case l3 => k_is); (case c3 => k_is); (case k3 => k_is); (case a4 => k_is); (case l4 => k_is); (case c4 => k_is); (case k4 => k_is); (case a5 => k_is); (case l5 => k_is); (case c5 => k_is); (case k5 => k_is); (case a6 => k_is); (case l6 => k_is); (case c6 => k_is); (case k6 => k_is); (case a7 => k_is); (case l7 => k_is); (case c7 => k_is); (case k7 => k_is); (case a8 => k_is); (case l8 => k_is); (case c8 => k_is); (case k8 => k_is); (case a9 => k_is); (case l9 => k_is); (case c9 => k_is); (case k9 => k_is); (case a10 => k_is); (case l10 => k_is); (case c10 => k_is); (case k10 => k_is); (case a11 => k_is); (case l11 => k_is); (case c11 => k_is); (case k11 => k_is); (case a12 => k_is); (case l12 => k_is); (case c12 => k_is); (case k12 => k_is); (case a13 => k_is); (case l13 => k_is); (case c13 => k_is); (case k13 => k_is); (case a14 => k_is); (case l14 => k_is); (case c14 => k_is); (case k14 => k_is); (case a15 => k_is); (case l15 => k_is); (case c15 => k_is); (case k15 => k_is); (case a16 => k_is); (case l16 => k_is); (case c16 => k_is); (case k16 => k_is); (case a17 => k_is); (case l17 => k_is); (case c17 => k_is); (case k17 => k_is); (case b1 => k_is); (case b2 => k_is); (case b3 => k_is); (case b4 => k_is); (case b5 => k_is); (case b6 => k_is); (case b7 => k_is); (case b8 => k_is); (case b9 => k_is); (case b10 => k_is); (case b11 => k_is); (case b12 => k_is); (case g1 => k_is); (case g2 => k_is); (case g3 => k_is); (case g4 => k_is); (case ga_KEPT => k_is); (case kl_KEPT => k_is); (case ga_SORTS => k_is); (case gl_SORTS => k_is); (case gy_SORTS => first | k_is | (repeat' (first | exact trivial | refine ⟨⟨_, _, rfl, rfl⟩, ?_⟩))); (case gw_SORTS => first | rfl | decide +kernel); (case ge_SORTS0 => k_is); (case kl_SORTS0 => k_is); (case ge_SORTS1 => k_is); (case kl_SORTS1 => k_is); (case ge_SORTS2 => k_is); (case kl_SORTS2 => k_is); (case ge_SORTS3 => k_is); (case kl_SORTS3 => k_is); (case u_RowText => k_is); (case am_RowText___init__ => k_is); (case lm_RowText___init__ => k_is); (case cm_RowText___init__ => k_is); (case km_RowText___init__ => k_is); (case nm_RowText___init__ => k_is); (case am_RowText_need => k_is); (case lm_RowText_need => k_is); (case cm_RowText_need => k_is); (case km_RowText_need => k_is); (case nm_RowText_need => k_is); (case am_RowText_sign => k_is); (case lm_RowText_sign => k_is); (case cm_RowText_sign => k_is); (case km_RowText_sign => k_is); (case nm_RowText_sign => k_is); (case am_RowText_go_past => k_is); (case lm_RowText_go_past => k_is); (case cm_RowText_go_past => k_is); (case km_RowText_go_past => k_is); (case nm_RowText_go_past => k_is); (case am_RowText_letters => k_is); (case lm_RowText_letters => k_is); (case cm_RowText_letters => k_is); (case km_RowText_letters => k_is); (case nm_RowText_letters => k_is); (case am_RowText_part => k_is); (case lm_RowText_part => k_is); (case cm_RowText_part => k_is); (case km_RowText_part => k_is); (case nm_RowText_part => k_is); (case am_RowText_term => k_is); (case lm_RowText_term => k_is); (case cm_RowText_term => k_is); (case km_RowText_term => k_is); (case nm_RowText_term => k_is); (case cg_RowText => k_is); (case ch_RowText => k_is); (case co_RowText => k_is); (case cs_RowText => k_is); (case cx_RowText => k_is); (case ck_RowText => k_is); (case at_RowText_at => k_is); (case at_RowText_row => k_is); (case at_RowText_text => k_is)
