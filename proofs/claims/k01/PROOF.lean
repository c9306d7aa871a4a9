import PyProof.Rows.All
import Wide.All
import OpenK.AllK
import Wide.FinOn
import HandS.ForList
import HandS.ForMost
import HandS.ForExc
import HandS.Wide
import HandS.Flow
import HandS.Rev
import HandS.Zip
import HandS.Exc
import HandS.Deep
import HandS.TupAny
import HandS.Replace
import HandS.Text
import KE.KDictList
import PyProof.StrWalks
import HandS.Codes
import HandS.IsInst
import HandS.More
import PyProof.StrOps2
import PyProof.Rows.ReprOcc
import PyProof.ReprRoads
import PyProof.StrLawsRepr
import KE.DataMinMax
import HandS.RaiseMore
import HandS.SortRule
import PyProof.TupleOfSeq
import KE.GoesEnum
import KE.GoesZip
import PyProof.EnumMake
import HandS.Dict
import HandS.Style
import KE.KRevSl
import HandS.ExcInit
import HandS.ExcIs
import HandS.ExcField
import HandS.ExcOwn
import HandS.WordsExc
import KE.KExcIs
import HandS.Words
import HandS.ExcValue
import PySem.Challenge.RW_mustmeet_k01_refusals
set_option Elab.async false
set_option linter.all false
set_option maxRecDepth 100000
set_option maxHeartbeats 4000000
/-! Pu: pure predicate transformers over data, above the hand layer -/
namespace Pu
open PySem L2

/-- data: what never changes any more, boxes of the law's draws, objects by number -/
inductive D where
  | non | bl (b : Bool) | int (i : Int) | str (s : List Nat) | tup (ds : List D) | lst (ds : List D) | scr (n : Nat) | box | ref (k : Nat) | cls (k : Nat) | exc (c : Nat) (ns : List Str) (ds : List D)
/-- what a slot holds: nothing, data, a list or dict of its own -/
inductive C where
  | un | d (d : D) | own (ds : List D) | dK (kvs : List (Key × D)) | dT (kvs : List (List Key × D))
/-- what an expression comes to: data, a new list or dict, what the slot i holds -/
inductive R where
  | d (d : D) | own (ds : List D) | dK (kvs : List (Key × D)) | dT (kvs : List (List Key × D)) | nam (i : Nat)
/-- an object of the store -/
inductive SO where
  | lst (ds : List D) | dK (kvs : List (Key × D)) | dT (kvs : List (List Key × D)) | ins (c : Nat) (fs : List (Str × D)) | exc (c : Nat) (ds : List D)
structure En where
  sl : List C
  st : List SO
structure Ex where
  c : Nat
  ds : List D
/-- the sort of an address -/
inductive Kd where
  | frz | box | obj (k : Nat)
abbrev Ka := Addr → Option Kd
abbrev Sto := List SO
abbrev Sl := List (Option V)

def KT (K : PySem.W.Frag) (a : Addr) (xs : List V) : Prop :=
  ∃ (o : Obj) (its : Array Value) (n : Nat), K.lookup a = some o ∧ o.cls = .type "tuple" ∧ o.data = .seq its n ∧ its.size ≤ sizeLine ∧ Vals xs its.toList
def KL (K : PySem.W.Frag) (a : Addr) (xs : List V) : Prop :=
  ∃ (o : Obj) (its : Array Value) (n : Nat), K.lookup a = some o ∧ o.cls = .type "list" ∧ o.dict = none ∧ o.data = .seq its n ∧ its.size ≤ sizeLine ∧ Vals xs its.toList

/-- what does not change in a def: the written part, the heap and the sorts at its entry -/
structure Gm where
  K : PySem.W.Frag
  H0 : Hp
  k0 : Ka
  cls : Nat → Addr
  flds : Nat → List Str
  E : XK
  x : Ex → Sto → Prop

/-- a text that the model lays -/
def SOk (l : List Nat) : Prop := l.length ≤ sizeLine ∧ ∀ c ∈ l, c < 1114112
instance (l : List Nat) : Decidable (SOk l) := by unfold SOk; infer_instance
/-- a caught or made exception of the class at C, its dict (none | at d) -/
def exT (a C : Addr) (d : Option Addr) : HO := .ext fun h => ∃ (oe : Obj) (vs : Array Value), h.get? a = some oe ∧ Zc (.ref C) d oe ∧ oe.data = .fields vs
/-- an exception's dict -/
def ExD (κ : Ka) (H : Hp) (d : Option Addr) (ns : List Str) (vs : List V) : Prop := (d = none ∧ ns = []) ∨ ∃ dd, d = some dd ∧ κ dd = some .frz ∧ H dd = some (.xd (ns.zip vs).reverse)
mutual
inductive Rep (K : PySem.W.Frag) (cl : Nat → Addr) (κ : Ka) (H : Hp) : V → D → Prop
  | non : Rep K cl κ H .non .non
  | bl (b : Bool) : Rep K cl κ H (.bl b) (.bl b)
  | int (i : Int) : Rep K cl κ H (.int i) (.int i)
  | str (l : List Nat) : SOk l → Rep K cl κ H (.str ⟨l.toArray⟩) (.str l)
  | lst {a : Addr} {vs : List V} {ds : List D} : κ a = some .frz → H a = some (.lst vs) → vs.length ≤ sizeLine → RepL K cl κ H vs ds → Rep K cl κ H (.ref a) (.lst ds)
  | tup {a : Addr} {vs : List V} {ds : List D} : ((κ a = some .frz ∧ H a = some (.tup vs)) ∨ KT K a vs) → vs.length ≤ sizeLine → RepL K cl κ H vs ds → Rep K cl κ H (.ref a) (.tup ds)
  | scr {a : Addr} {ns : List Int} {n : Nat} : ((κ a = some .frz ∧ Rd H a (.lst (ns.map V.int))) ∨ KL K a (ns.map V.int)) → ns.length = n → n ≤ 63 → Rep K cl κ H (.ref a) (.scr n)
  | box {a : Addr} : κ a = some .box → Rep K cl κ H (.ref a) .box
  | ref {a : Addr} {k : Nat} : κ a = some (.obj k) → Rep K cl κ H (.ref a) (.ref k)
  | cls (k : Nat) : Rep K cl κ H (.ref (cl k)) (.cls k)
  | exc {a : Addr} {c : Nat} {ns : List Str} {vs : List V} {ds : List D} {d : Option Addr} : κ a = some .frz → H a = some (exT a (cl c) d) → ExD κ H d ns vs → RepL K cl κ H vs ds → Rep K cl κ H (.ref a) (.exc c ns ds)
inductive RepL (K : PySem.W.Frag) (cl : Nat → Addr) (κ : Ka) (H : Hp) : List V → List D → Prop
  | nil : RepL K cl κ H [] []
  | cons {v : V} {vs : List V} {d : D} {ds : List D} : Rep K cl κ H v d → RepL K cl κ H vs ds → RepL K cl κ H (v :: vs) (d :: ds)
end
/-- entries of a dict, attributes -/
inductive PR {α : Type} (K : PySem.W.Frag) (cl : Nat → Addr) (κ : Ka) (H : Hp) : List (α × V) → List (α × D) → Prop
  | nil : PR K cl κ H [] []
  | cons {a : α} {v : V} {vs : List (α × V)} {d : D} {ds : List (α × D)} : Rep K cl κ H v d → PR K cl κ H vs ds → PR K cl κ H ((a, v) :: vs) ((a, d) :: ds)

def Ext (κ : Ka) (H : Hp) (κ' : Ka) (H' : Hp) : Prop := (∀ a x, κ a = some x → κ' a = some x) ∧ ∀ a, κ a = some .frz → H' a = H a
theorem Ext.refl (κ : Ka) (H : Hp) : Ext κ H κ H := ⟨fun _ _ h => h, fun _ _ => rfl⟩
theorem Ext.trans {κ κ1 κ2 : Ka} {H H1 H2 : Hp} (a : Ext κ H κ1 H1) (b : Ext κ1 H1 κ2 H2) : Ext κ H κ2 H2 :=
  ⟨fun x y h => b.1 x y (a.1 x y h), fun x h => (b.2 x (a.1 x _ h)).trans (a.2 x h)⟩

section
variable {K : PySem.W.Frag} {cl : Nat → Addr} {κ κ' : Ka} {H H' : Hp}
mutual
theorem Rep.mono (e : Ext κ H κ' H') : ∀ {d : D} {v : V}, Rep K cl κ H v d → Rep K cl κ' H' v d
  | .non, _, h => by cases h; exact .non
  | .bl b, _, h => by cases h; exact .bl b
  | .int i, _, h => by cases h; exact .int i
  | .str l, _, h => by cases h with | str _ h => exact .str l h
  | .lst ds, _, h => by
    cases h with
    | lst h1 h2 h3 h4 => exact .lst (e.1 _ _ h1) ((e.2 _ h1).trans h2) h3 (RepL.mono e h4)
  | .tup ds, _, h => by
    cases h with
    | tup h1 h3 h4 =>
      refine .tup ?_ h3 (RepL.mono e h4)
      rcases h1 with ⟨h1, h2⟩ | h1
      · exact .inl ⟨e.1 _ _ h1, (e.2 _ h1).trans h2⟩
      · exact .inr h1
  | .scr n, _, h => by
    cases h with
    | scr h1 h2 h3 =>
      refine .scr ?_ h2 h3
      rcases h1 with ⟨h1, h2⟩ | h1
      · refine .inl ⟨e.1 _ _ h1, ?_⟩
        unfold Rd
        rw [e.2 _ h1]
        exact h2
      · exact .inr h1
  | .box, _, h => by cases h with | box h => exact .box (e.1 _ _ h)
  | .ref k, _, h => by cases h with | ref h => exact .ref (e.1 _ _ h)
  | .cls k, _, h => by cases h; exact .cls k
  | .exc c ns ds, _, h => by
    cases h with
    | exc h1 h2 h3 h4 =>
      refine .exc (e.1 _ _ h1) ((e.2 _ h1).trans h2) ?_ (RepL.mono e h4)
      rcases h3 with h3 | ⟨dd, h3, h5, h6⟩
      · exact .inl h3
      · exact .inr ⟨dd, h3, e.1 _ _ h5, (e.2 _ h5).trans h6⟩
theorem RepL.mono (e : Ext κ H κ' H') : ∀ {ds : List D} {vs : List V}, RepL K cl κ H vs ds → RepL K cl κ' H' vs ds
  | [], _, h => by cases h; exact .nil
  | d :: ds, _, h => by cases h with | cons h1 h2 => exact .cons (Rep.mono e h1) (RepL.mono e h2)
end
theorem PR.mono {α : Type} (e : Ext κ H κ' H') : ∀ {ds : List (α × D)} {vs : List (α × V)}, PR K cl κ H vs ds → PR K cl κ' H' vs ds
  | [], _, h => by cases h; exact .nil
  | _ :: ds, _, h => by cases h with | cons h1 h2 => exact .cons (Rep.mono e h1) (PR.mono e h2)
theorem RepL.length : ∀ {ds : List D} {vs : List V}, RepL K cl κ H vs ds → vs.length = ds.length
  | [], _, h => by cases h; rfl
  | d :: ds, _, h => by cases h with | cons h1 h2 => simp [RepL.length h2]
theorem PR.length {α : Type} : ∀ {ds : List (α × D)} {vs : List (α × V)}, PR K cl κ H vs ds → vs.length = ds.length
  | [], _, h => by cases h; rfl
  | d :: ds, _, h => by cases h with | cons h1 h2 => simp [PR.length h2]
theorem RepL.append : ∀ {ds es : List D} {vs ws : List V}, RepL K cl κ H vs ds → RepL K cl κ H ws es → RepL K cl κ H (vs ++ ws) (ds ++ es)
  | [], _, _, _, h, g => by cases h; exact g
  | d :: ds, _, _, _, h, g => by cases h with | cons h1 h2 => exact .cons h1 (RepL.append h2 g)
theorem RepL.get : ∀ {ds : List D} {vs : List V} {i : Nat} {d : D}, RepL K cl κ H vs ds → ds[i]? = some d → ∃ v, vs[i]? = some v ∧ Rep K cl κ H v d
  | [], _, _, _, h, e => by simp at e
  | d :: ds, _, 0, _, h, e => by
    cases h with
    | cons h1 h2 => simp at e; subst e; exact ⟨_, rfl, h1⟩
  | d :: ds, _, i + 1, _, h, e => by
    cases h with
    | cons h1 h2 =>
      obtain ⟨v, e1, r⟩ := RepL.get (i := i) h2 (by simpa using e)
      exact ⟨v, by simpa using e1, r⟩
theorem RepL.get' : ∀ {ds : List D} {vs : List V} {i : Nat} {v : V}, RepL K cl κ H vs ds → vs[i]? = some v → ∃ d, ds[i]? = some d ∧ Rep K cl κ H v d
  | [], _, _, _, h, e => by cases h; simp at e
  | d :: ds, _, 0, _, h, e => by
    cases h with
    | cons h1 h2 => simp at e; subst e; exact ⟨_, rfl, h1⟩
  | d :: ds, _, i + 1, _, h, e => by
    cases h with
    | cons h1 h2 =>
      obtain ⟨v, e1, r⟩ := RepL.get' (i := i) h2 (by simpa using e)
      exact ⟨v, by simpa using e1, r⟩
theorem RepL.set : ∀ {ds : List D} {vs : List V} {v : V} {d : D} (i : Nat), Rep K cl κ H v d → RepL K cl κ H vs ds → RepL K cl κ H (vs.set i v) (ds.set i d)
  | [], _, _, _, _, _, h => by cases h; exact .nil
  | _ :: _, _, _, _, 0, r, h => by cases h with | cons h1 h2 => exact .cons r h2
  | _ :: _, _, _, _, i + 1, r, h => by cases h with | cons h1 h2 => exact .cons h1 (RepL.set i r h2)
theorem RepL.take : ∀ {ds : List D} {vs : List V} (n : Nat), RepL K cl κ H vs ds → RepL K cl κ H (vs.take n) (ds.take n)
  | _, _, 0, _ => by simpa using .nil
  | [], _, n + 1, h => by cases h; exact .nil
  | _ :: _, _, n + 1, h => by cases h with | cons h1 h2 => exact .cons h1 (RepL.take n h2)
theorem RepL.drop : ∀ {ds : List D} {vs : List V} (n : Nat), RepL K cl κ H vs ds → RepL K cl κ H (vs.drop n) (ds.drop n)
  | _, _, 0, h => h
  | [], _, n + 1, h => by cases h; exact .nil
  | _ :: _, _, n + 1, h => by cases h with | cons h1 h2 => exact RepL.drop n h2
theorem RepL.eraseIdx : ∀ {ds : List D} {vs : List V} (n : Nat), RepL K cl κ H vs ds → RepL K cl κ H (vs.eraseIdx n) (ds.eraseIdx n)
  | [], _, _, h => by cases h; exact .nil
  | _ :: _, _, 0, h => by cases h with | cons h1 h2 => exact h2
  | _ :: _, _, n + 1, h => by cases h with | cons h1 h2 => exact .cons h1 (RepL.eraseIdx n h2)
theorem RepL.dropLast : ∀ {ds : List D} {vs : List V}, RepL K cl κ H vs ds → RepL K cl κ H vs.dropLast ds.dropLast
  | ds, vs, h => by
    rw [List.dropLast_eq_take, List.dropLast_eq_take, h.length]
    exact h.take _
theorem RepL.reverse : ∀ {ds : List D} {vs : List V}, RepL K cl κ H vs ds → RepL K cl κ H vs.reverse ds.reverse
  | [], _, h => by cases h; exact .nil
  | _ :: _, _, h => by
    cases h with
    | cons h1 h2 =>
      rw [List.reverse_cons, List.reverse_cons]
      exact (RepL.reverse h2).append (.cons h1 .nil)
end

/-- what a fresh own thing at a slot or a result is -/
def OwnC (Γ : Gm) (κ : Ka) (H : Hp) (a : Addr) : C → Prop
  | .own ds => κ a = none ∧ Γ.H0 a = none ∧ ∃ vs, H a = some (.lst vs) ∧ vs.length ≤ sizeLine ∧ RepL Γ.K Γ.cls κ H vs ds
  | .dK kvs => κ a = none ∧ Γ.H0 a = none ∧ ∃ vs, H a = some (.dK vs) ∧ PR Γ.K Γ.cls κ H vs kvs
  | .dT kvs => κ a = none ∧ Γ.H0 a = none ∧ ∃ vs, H a = some (.dT vs) ∧ PR Γ.K Γ.cls κ H vs kvs
  | _ => False
def C.isOwn : C → Bool
  | .own _ => true
  | .dK _ => true
  | .dT _ => true
  | _ => false
def RelS (Γ : Gm) (κ : Ka) (H : Hp) (o : Option (Option V)) : C → Prop
  | .un => True
  | .d d => ∃ v, o = some (some v) ∧ Rep Γ.K Γ.cls κ H v d
  | c => ∃ a, o = some (some (.ref a)) ∧ OwnC Γ κ H a c
def RelC (Γ : Gm) (κ : Ka) (H : Hp) (v : V) : C → Prop
  | .un => False
  | .d d => Rep Γ.K Γ.cls κ H v d
  | c => ∃ a, v = .ref a ∧ OwnC Γ κ H a c

def ObjR (Γ : Gm) (κ : Ka) (H : Hp) (a : Addr) : SO → Prop
  | .lst ds => ∃ vs, H a = some (.lst vs) ∧ vs.length ≤ sizeLine ∧ RepL Γ.K Γ.cls κ H vs ds
  | .dK kvs => ∃ vs, H a = some (.dK vs) ∧ PR Γ.K Γ.cls κ H vs kvs
  | .dT kvs => ∃ vs, H a = some (.dT vs) ∧ PR Γ.K Γ.cls κ H vs kvs
  | .ins c fs => ∃ dx vs, H a = some (.ins (Γ.cls c) dx vs) ∧ PR Γ.K Γ.cls κ H vs fs
  | .exc _ _ => False

/-- the ghost's part of the invariant -/
structure Gh (Γ : Gm) (κ : Ka) (st : Sto) (H : Hp) : Prop where
  sub : ∀ a x, Γ.k0 a = some x → κ a = some x
  new : ∀ a x, κ a = some x → Γ.k0 a = some x ∨ Γ.H0 a = none
  trk : ∀ a x, κ a = some x → H a ≠ none
  trk0 : ∀ a, Γ.H0 a ≠ none → H a ≠ none
  box : ∀ a, κ a = some .box → ∃ i j, H a = some (.lst [.int i, .int j])
  obj : ∀ a k, κ a = some (.obj k) → ∃ so, st[k]? = some so ∧ ObjR Γ κ H a so
  inj : ∀ a b k, κ a = some (.obj k) → κ b = some (.obj k) → a = b
  base : ∀ a o, Γ.H0 a = some o → (Γ.k0 a = none ∨ Γ.k0 a = some .frz) → H a = some o

def OwnS (env : En) (σ : Sl) (i : Nat) (a : Addr) : Prop := σ[i]? = some (some (.ref a)) ∧ ∃ c, env.sl[i]? = some c ∧ c.isOwn = true

structure Rl (Γ : Gm) (κ : Ka) (env : En) (σ : Sl) (H : Hp) : Prop where
  len : σ.length = env.sl.length
  sl : ∀ (i : Nat) (c : C), env.sl[i]? = some c → RelS Γ κ H σ[i]? c
  dist : ∀ (i j : Nat) (a : Addr), OwnS env σ i a → OwnS env σ j a → i = j
  gh : Gh Γ κ env.st H

/-- what an expression came to -/
def RelR (Γ : Gm) (κ : Ka) (H : Hp) (env : En) (σ : Sl) (v : V) : R → Prop
  | .d d => Rep Γ.K Γ.cls κ H v d
  | .nam i => σ[i]? = some (some v)
  | .own ds => ∃ a, v = .ref a ∧ OwnC Γ κ H a (.own ds) ∧ ∀ i, ¬ OwnS env σ i a
  | .dK kvs => ∃ a, v = .ref a ∧ OwnC Γ κ H a (.dK kvs) ∧ ∀ i, ¬ OwnS env σ i a
  | .dT kvs => ∃ a, v = .ref a ∧ OwnC Γ κ H a (.dT kvs) ∧ ∀ i, ¬ OwnS env σ i a

abbrev PX := Ex → Sto → Prop
abbrev PTE := PX → En → (R → En → Prop) → Prop
abbrev PTT := PX → En → (Bool → En → Prop) → Prop
abbrev PTA := PX → En → (List D → En → Prop) → Prop
structure PEn where
  nx : En → Prop
  rt : C → En → Prop
  bk : En → Prop := fun _ => False
  ct : En → Prop := fun _ => False
abbrev PTS := PX → PEn → En → Prop

/-! ### the judgements -/
/-- the contexts in which a piece of text runs -/
structure Fam where
  ι : Type
  X : ι → Cx
  E : ι → XK
  K : PySem.W.Frag
  hK : ∀ i, (X i).K = K
  cls : Nat → Addr
  flds : Nat → List Str
/-- what is wanted of an exception, purely, is what is wanted of it -/
def XOk (Γ : Gm) : Prop := ∀ (κ : Ka) (H : Hp) (st : Sto) (c : Nat) (ds : List D) (vs : List V) (d : Option Addr), Gh Γ κ st H → Γ.x ⟨c, ds⟩ st → RepL Γ.K Γ.cls κ H vs ds → ExD κ H d (Γ.flds c) vs → Γ.E (.ref (Γ.cls c)) d H
structure GK (Y : Fam) (Γ : Gm) : Prop where
  k : Γ.K = Y.K
  c : Γ.cls = Y.cls
  f : Γ.flds = Y.flds
  x : XOk Γ
section
variable (Y : Fam)
structure VE (e : Expr) (t : PTE) : Prop where
  ex : ∃ rd : XK → TE, (∀ i, PE (Y.X i) e (rd (Y.E i))) ∧ ∀ (Γ : Gm) (σ : Sl) (κ : Ka) (H : Hp) (env : En) (Q : R → En → Prop) (Q' : VK), GK Y Γ → Rl Γ κ env σ H → t Γ.x env Q →
    (∀ v κ' H' r env', Ext κ H κ' H' → Rl Γ κ' env' σ H' → RelR Γ κ' H' env' σ v r → Q r env' → Q' v H') → rd Γ.E σ H Q'
structure VT (e : Expr) (t : PTT) : Prop where
  ex : ∃ rd : XK → TT, (∀ i, PT (Y.X i) e (rd (Y.E i))) ∧ ∀ (Γ : Gm) (σ : Sl) (κ : Ka) (H : Hp) (env : En) (Q : Bool → En → Prop) (Q' : Bool → Hp → Prop), GK Y Γ → Rl Γ κ env σ H → t Γ.x env Q →
    (∀ b κ' H' env', Ext κ H κ' H' → Rl Γ κ' env' σ H' → Q b env' → Q' b H') → rd Γ.E σ H Q'
structure VW (e : Expr) (t : PTT) : Prop where
  ex : ∃ rd : XK → TT, (∀ i, PW (Y.X i) e (rd (Y.E i))) ∧ ∀ (Γ : Gm) (σ : Sl) (κ : Ka) (H : Hp) (env : En) (Q : Bool → En → Prop) (Q' : Bool → Hp → Prop), GK Y Γ → Rl Γ κ env σ H → t Γ.x env Q →
    (∀ b κ' H' env', Ext κ H κ' H' → Rl Γ κ' env' σ H' → Q b env' → Q' b H') → rd Γ.E σ H Q'
/-- arguments, all data -/
structure VA (es : List Expr) (t : PTA) : Prop where
  ex : ∃ rd : XK → TA, (∀ i, PA (Y.X i) es (rd (Y.E i))) ∧ ∀ (Γ : Gm) (σ : Sl) (κ : Ka) (H : Hp) (env : En) (Q : List D → En → Prop) (Q' : List V → Hp → Prop), GK Y Γ → Rl Γ κ env σ H → t Γ.x env Q →
    (∀ vs κ' H' ds env', Ext κ H κ' H' → Rl Γ κ' env' σ H' → RepL Γ.K Γ.cls κ' H' vs ds → Q ds env' → Q' vs H') → rd Γ.E σ H Q'
def LiftTo (Γ : Gm) (κ : Ka) (H : Hp) (D : PEn) (D' : Ends) : Prop :=
  (∀ σ' κ' H' env', Ext κ H κ' H' → Rl Γ κ' env' σ' H' → D.nx env' → D'.nx σ' H') ∧
  (∀ v κ' H' c env', Ext κ H κ' H' → Gh Γ κ' env'.st H' → RelC Γ κ' H' v c → D.rt c env' → D'.rt v H') ∧
  (∀ σ' κ' H' env', Ext κ H κ' H' → Rl Γ κ' env' σ' H' → D.bk env' → D'.bk σ' H') ∧
  (∀ σ' κ' H' env', Ext κ H κ' H' → Rl Γ κ' env' σ' H' → D.ct env' → D'.ct σ' H')
structure VS (s : Stmt) (t : PTS) : Prop where
  ex : ∃ rd : XK → TS, (∀ i, PS (Y.X i) s (rd (Y.E i))) ∧ ∀ (Γ : Gm) (σ : Sl) (κ : Ka) (H : Hp) (env : En) (D : PEn) (D' : Ends), GK Y Γ → Rl Γ κ env σ H → t Γ.x D env → LiftTo Γ κ H D D' → rd Γ.E D' σ H
structure VSs (s : List Stmt) (t : PTS) : Prop where
  ex : ∃ rd : XK → TS, (∀ i, PSs (Y.X i) s (rd (Y.E i))) ∧ ∀ (Γ : Gm) (σ : Sl) (κ : Ka) (H : Hp) (env : En) (D : PEn) (D' : Ends), GK Y Γ → Rl Γ κ env σ H → t Γ.x D env → LiftTo Γ κ H D D' → rd Γ.E D' σ H
end
theorem LiftTo.ext {Γ : Gm} {κ κ1 : Ka} {H H1 : Hp} {D : PEn} {D' : Ends} (e : Ext κ H κ1 H1) (l : LiftTo Γ κ H D D') : LiftTo Γ κ1 H1 D D' :=
  ⟨fun σ' κ' H' env' x => l.1 σ' κ' H' env' (e.trans x), fun v κ' H' c env' x => l.2.1 v κ' H' c env' (e.trans x), fun σ' κ' H' env' x => l.2.2.1 σ' κ' H' env' (e.trans x), fun σ' κ' H' env' x => l.2.2.2 σ' κ' H' env' (e.trans x)⟩

/-! ### reading what stands -/
def rv : R → En → Option D
  | .d d, _ => some d
  | .own ds, _ => some (.lst ds)
  | .nam i, e => match e.sl[i]? with
    | some (.d d) => some d
    | some (.own ds) => some (.lst ds)
    | _ => none
  | _, _ => none
/-- data at its top: a list may be one's own -/
def RepT (Γ : Gm) (κ : Ka) (H : Hp) (v : V) : D → Prop
  | .lst ds => ∃ a vs, v = .ref a ∧ H a = some (.lst vs) ∧ vs.length ≤ sizeLine ∧ RepL Γ.K Γ.cls κ H vs ds
  | d => Rep Γ.K Γ.cls κ H v d
section
variable {Γ : Gm} {κ κ' : Ka} {H H' : Hp} {env env' : En} {σ : Sl} {v : V}
theorem Rep.top {d : D} (h : Rep Γ.K Γ.cls κ H v d) : RepT Γ κ H v d := by
  cases d with
  | lst ds => cases h with | lst h1 h2 h3 h4 => exact ⟨_, _, rfl, h2, h3, h4⟩
  | _ => exact h
theorem Rl.get {i : Nat} {c : C} (r : Rl Γ κ env σ H) (e : env.sl[i]? = some c) : RelS Γ κ H σ[i]? c := r.sl i c e
theorem rv_ok {r : R} {d : D} (I : Rl Γ κ env σ H) (h : RelR Γ κ H env σ v r) (e : rv r env = some d) : RepT Γ κ H v d := by
  cases r with
  | d d' => cases e; exact h.top
  | own ds =>
    cases e
    obtain ⟨a, rfl, ⟨_, _, vs, h2, h3, h4⟩, _⟩ := h
    exact ⟨a, vs, rfl, h2, h3, h4⟩
  | dK _ => cases e
  | dT _ => cases e
  | nam i =>
    have h : σ[i]? = some (some v) := h
    unfold rv at e
    simp only at e
    cases q : env.sl[i]? with
    | none => rw [q] at e; cases e
    | some c =>
      have s := I.get q
      rw [q] at e
      cases c with
      | un => cases e
      | d d' =>
        cases e
        obtain ⟨w, e1, r⟩ := s
        rw [h] at e1
        cases e1
        exact r.top
      | own ds =>
        cases e
        obtain ⟨a, e1, _, _, vs, h2, h3, h4⟩ := s
        rw [h] at e1
        cases e1
        exact ⟨a, vs, rfl, h2, h3, h4⟩
      | dK _ => cases e
      | dT _ => cases e
/-- a result that is kept while something else is evaluated -/
def hold : R → En → (R → En → Prop) → Prop
  | .own ds, e, Q => Q (.d (.lst ds)) e
  | .d d, e, Q => Q (.d d) e
  | .nam i, e, Q => Q (.nam i) e
  | _, _, _ => False
def HeldR (Γ : Gm) (κ : Ka) (H : Hp) (σ : Sl) (v : V) : R → Prop
  | .d d => Rep Γ.K Γ.cls κ H v d
  | .nam i => σ[i]? = some (some v)
  | _ => False
theorem HeldR.ext {r : R} (e : Ext κ H κ' H') (h : HeldR Γ κ H σ v r) : HeldR Γ κ' H' σ v r := by
  cases r with
  | d d => exact Rep.mono e h
  | nam i => exact h
  | _ => exact h.elim
theorem HeldR.rel {r : R} (h : HeldR Γ κ H σ v r) : RelR Γ κ H env σ v r := by
  cases r with
  | d d => exact h
  | nam i => exact h
  | _ => exact h.elim

/-- the sort of one address more -/
def put (κ : Ka) (a : Addr) (k : Kd) : Ka := fun b => if b = a then some k else κ b
theorem put_same {κ : Ka} {a : Addr} {k : Kd} : put κ a k a = some k := if_pos rfl
theorem put_ne {κ : Ka} {a b : Addr} {k : Kd} (h : b ≠ a) : put κ a k b = κ b := if_neg h
theorem Ext.put {a : Addr} {k : Kd} (h : κ a = none) : Ext κ H (put κ a k) H := by
  refine ⟨fun b x e => ?_, fun _ _ => rfl⟩
  rw [put_ne (fun z => by rw [z, h] at e; cases e)]
  exact e
theorem ObjR.ext {a : Addr} {so : SO} (e : Ext κ H κ' H') (ha : H' a = H a) (h : ObjR Γ κ H a so) : ObjR Γ κ' H' a so := by
  cases so with
  | lst ds => obtain ⟨vs, h1, h2, h3⟩ := h; exact ⟨vs, ha.trans h1, h2, h3.mono e⟩
  | dK ds => obtain ⟨vs, h1, h3⟩ := h; exact ⟨vs, ha.trans h1, h3.mono e⟩
  | dT ds => obtain ⟨vs, h1, h3⟩ := h; exact ⟨vs, ha.trans h1, h3.mono e⟩
  | ins c fs => obtain ⟨dx, vs, h1, h3⟩ := h; exact ⟨dx, vs, ha.trans h1, h3.mono e⟩
  | exc c ds => exact h
theorem Gh.put_frz {st : Sto} {a : Addr} (g : Gh Γ κ st H) (h : κ a = none) (h0 : Γ.H0 a = none) (ht : H a ≠ none) : Gh Γ (put κ a .frz) st H := by
  have nk : Γ.k0 a = none := by
    cases q : Γ.k0 a with
    | none => rfl
    | some x => have := g.sub a x q; rw [h] at this; cases this
  have ne : ∀ b x, κ b = some x → b ≠ a := fun b x e z => by rw [z, h] at e; cases e
  refine ⟨fun b x e => (Ext.put (H := H) h).1 b x (g.sub b x e), fun b x e => ?_, fun b x e => ?_, g.trk0, fun b e => ?_, fun b k e => ?_, fun b c k e1 e2 => ?_, g.base⟩
  · by_cases hb : b = a
    · subst hb; exact .inr h0
    · rw [put_ne hb] at e; exact g.new b x e
  · by_cases hb : b = a
    · subst hb; exact ht
    · rw [put_ne hb] at e; exact g.trk b x e
  · by_cases hb : b = a
    · subst hb; rw [put_same] at e; cases e
    · rw [put_ne hb] at e; exact g.box b e
  · by_cases hb : b = a
    · subst hb; rw [put_same] at e; cases e
    · rw [put_ne hb] at e
      obtain ⟨so, h1, h2⟩ := g.obj b k e
      exact ⟨so, h1, h2.ext (Ext.put h) rfl⟩
  · have hb : b ≠ a := fun z => by subst z; rw [put_same] at e1; cases e1
    have hc : c ≠ a := fun z => by subst z; rw [put_same] at e2; cases e2
    rw [put_ne hb] at e1
    rw [put_ne hc] at e2
    exact g.inj b c k e1 e2
theorem OwnC.ext {a : Addr} {c : C} (e : Ext κ H κ' H') (hk : κ' a = none) (ha : H' a = H a) (h : OwnC Γ κ H a c) : OwnC Γ κ' H' a c := by
  cases c with
  | own ds => obtain ⟨_, h0, vs, h1, h2, h3⟩ := h; exact ⟨hk, h0, vs, ha.trans h1, h2, h3.mono e⟩
  | dK ds => obtain ⟨_, h0, vs, h1, h3⟩ := h; exact ⟨hk, h0, vs, ha.trans h1, h3.mono e⟩
  | dT ds => obtain ⟨_, h0, vs, h1, h3⟩ := h; exact ⟨hk, h0, vs, ha.trans h1, h3.mono e⟩
  | _ => exact h.elim
theorem OwnC.facts {a : Addr} {c : C} (h : OwnC Γ κ H a c) : κ a = none ∧ Γ.H0 a = none ∧ H a ≠ none := by
  cases c with
  | own ds => obtain ⟨h, h0, vs, h1, _⟩ := h; exact ⟨h, h0, by rw [h1]; simp⟩
  | dK ds => obtain ⟨h, h0, vs, h1, _⟩ := h; exact ⟨h, h0, by rw [h1]; simp⟩
  | dT ds => obtain ⟨h, h0, vs, h1, _⟩ := h; exact ⟨h, h0, by rw [h1]; simp⟩
  | _ => exact h.elim
theorem RelS.own {o : Option (Option V)} {c : C} (h : RelS Γ κ H o c) (hc : c.isOwn = true) : ∃ a, o = some (some (.ref a)) ∧ OwnC Γ κ H a c := by
  cases c with
  | un => cases hc
  | d _ => cases hc
  | _ => exact h
theorem RelS.mk {o : Option (Option V)} {a : Addr} {c : C} (e : o = some (some (.ref a))) (h : OwnC Γ κ H a c) : RelS Γ κ H o c := by
  cases c with
  | un => exact h.elim
  | d _ => exact h.elim
  | _ => exact ⟨a, e, h⟩
theorem Rl.ownS {i : Nat} {a : Addr} (I : Rl Γ κ env σ H) (h : OwnS env σ i a) : ∃ c, env.sl[i]? = some c ∧ OwnC Γ κ H a c := by
  obtain ⟨e, c, e1, hc⟩ := h
  obtain ⟨b, e2, ho⟩ := (I.get e1).own hc
  rw [e] at e2
  cases e2
  exact ⟨c, e1, ho⟩
/-- THE STEP: the slots as they are -/
theorem Rl.step {st' : Sto} (I : Rl Γ κ env σ H) (e : Ext κ H κ' H') (ho : ∀ i a, OwnS env σ i a → κ' a = none ∧ H' a = H a) (g : Gh Γ κ' st' H') : Rl Γ κ' ⟨env.sl, st'⟩ σ H' := by
  refine ⟨I.len, fun i c ec => ?_, fun i j a h1 h2 => I.dist i j a h1 h2, g⟩
  have s := I.get ec
  cases hc : c.isOwn with
  | true =>
    obtain ⟨a, e1, h⟩ := s.own hc
    obtain ⟨k1, k2⟩ := ho i a ⟨e1, c, ec, hc⟩
    exact .mk e1 (h.ext e k1 k2)
  | false =>
    cases c with
    | un => trivial
    | d d => obtain ⟨v, e1, r⟩ := s; exact ⟨v, e1, r.mono e⟩
    | _ => cases hc
/-- a fresh list becomes data -/
theorem Rl.put_frz {a : Addr} (I : Rl Γ κ env σ H) (h : κ a = none) (h0 : Γ.H0 a = none) (ht : H a ≠ none) (hs : ∀ i, ¬ OwnS env σ i a) : Rl Γ (put κ a .frz) env σ H :=
  I.step (Ext.put h) (fun i b hb => ⟨by rw [put_ne (fun z => hs i (by rw [← z]; exact hb))]; exact (I.ownS hb).elim fun c hc => hc.2.facts.1, rfl⟩) (I.gh.put_frz h h0 ht)
theorem hold_ok {r : R} {Q : R → En → Prop} {P : Prop} (I : Rl Γ κ env σ H) (h : RelR Γ κ H env σ v r) (q : hold r env Q)
    (k : ∀ κ' r', Ext κ H κ' H → Rl Γ κ' env σ H → HeldR Γ κ' H σ v r' → Q r' env → P) : P := by
  cases r with
  | d d => exact k κ (.d d) (.refl ..) I h q
  | nam i => exact k κ (.nam i) (.refl ..) I h q
  | own ds =>
    obtain ⟨a, rfl, ⟨h1, h2, vs, h3, h4, h5⟩, h6⟩ := h
    refine k (put κ a .frz) (.d (.lst ds)) (Ext.put h1) (I.put_frz h1 h2 (by rw [h3]; simp) h6) ?_ q
    exact .lst put_same h3 h4 (h5.mono (Ext.put h1))
  | dK _ => exact False.elim q
  | dT _ => exact False.elim q

/-- as data: a list of one's own is one's own no more -/
def En.setC (e : En) (i : Nat) (c : C) : En := ⟨e.sl.set i c, e.st⟩
def fz : R → En → (D → En → Prop) → Prop
  | .d d, e, Q => Q d e
  | .own ds, e, Q => Q (.lst ds) e
  | .nam i, e, Q => match e.sl[i]? with
    | some (.d d) => Q d e
    | some (.own ds) => Q (.lst ds) (e.setC i (.d (.lst ds)))
    | _ => False
  | _, _, _ => False
theorem fz_ok {r : R} {Q : D → En → Prop} {P : Prop} (I : Rl Γ κ env σ H) (h : RelR Γ κ H env σ v r) (q : fz r env Q)
    (k : ∀ κ' d env', Ext κ H κ' H → Rl Γ κ' env' σ H → Rep Γ.K Γ.cls κ' H v d → Q d env' → P) : P := by
  cases r with
  | d d => exact k κ _ _ (.refl ..) I h q
  | own ds =>
    obtain ⟨a, rfl, ⟨h1, h2, vs, h3, h4, h5⟩, h6⟩ := h
    refine k (put κ a .frz) (.lst ds) env (Ext.put h1) (I.put_frz h1 h2 (by rw [h3]; simp) h6) ?_ q
    exact .lst put_same h3 h4 (h5.mono (Ext.put h1))
  | dK _ => exact False.elim q
  | dT _ => exact False.elim q
  | nam i =>
    have h : σ[i]? = some (some v) := h
    unfold fz at q
    simp only at q
    cases qe : env.sl[i]? with
    | none => rw [qe] at q; exact False.elim q
    | some c =>
      have s := I.get qe
      rw [qe] at q
      cases c with
      | un => exact False.elim q
      | dK _ => exact False.elim q
      | dT _ => exact False.elim q
      | d d' =>
        obtain ⟨w, e1, r⟩ := s
        rw [h] at e1
        cases e1
        exact k κ _ _ (.refl ..) I r q
      | own ds =>
        obtain ⟨a, e1, h1, h2, vs, h3, h4, h5⟩ := s
        rw [h] at e1
        cases e1
        have x : Ext κ H (put κ a .frz) H := Ext.put h1
        have rep : Rep Γ.K Γ.cls (put κ a .frz) H (.ref a) (.lst ds) := .lst put_same h3 h4 (h5.mono x)
        have own_i : OwnS env σ i a := ⟨h, _, qe, rfl⟩
        have hi : i < env.sl.length := (List.getElem?_eq_some_iff.mp qe).1
        refine k (put κ a .frz) (.lst ds) (env.setC i (.d (.lst ds))) x ⟨by rw [I.len]; simp [En.setC], fun j c ec => ?_, fun j l b o1 o2 => ?_, I.gh.put_frz h1 h2 (by rw [h3]; simp)⟩ rep q
        · by_cases hj : j = i
          · subst hj
            have ec : (env.sl.set j (C.d (.lst ds)))[j]? = some c := ec
            rw [List.getElem?_set_self hi] at ec
            cases ec
            exact ⟨_, h, rep⟩
          · have ec : (env.sl.set i (C.d (.lst ds)))[j]? = some c := ec
            rw [List.getElem?_set_ne (Ne.symm hj)] at ec
            have s := I.get ec
            cases hc : c.isOwn with
            | true =>
              obtain ⟨b, e1, hb⟩ := s.own hc
              have hba : b ≠ a := fun z => hj (I.dist j i a ⟨z ▸ e1, c, ec, hc⟩ own_i)
              exact .mk e1 (hb.ext x (by rw [put_ne hba]; exact hb.facts.1) rfl)
            | false =>
              cases c with
              | un => trivial
              | d d => obtain ⟨v, e1, r⟩ := s; exact ⟨v, e1, r.mono x⟩
              | _ => cases hc
        · have old : ∀ m, OwnS (env.setC i (.d (.lst ds))) σ m b → OwnS env σ m b := fun m ⟨z1, c, z2, z3⟩ => by
            by_cases hm : m = i
            · subst hm
              have z2 : (env.sl.set m (C.d (.lst ds)))[m]? = some c := z2
              rw [List.getElem?_set_self hi] at z2
              cases z2
              cases z3
            · have z2 : (env.sl.set i (C.d (.lst ds)))[m]? = some c := z2
              rw [List.getElem?_set_ne (Ne.symm hm)] at z2
              exact ⟨z1, c, z2, z3⟩
          exact I.dist j l b (old j o1) (old l o2)
end
end Pu
set_option maxRecDepth 100000
set_option maxHeartbeats 4000000
namespace Pu
open PySem L2
section
variable {Γ : Gm} {κ κ' : Ka} {H H' : Hp} {env env' : En} {σ : Sl} {v : V} {st : Sto}

/-! ### new objects -/
theorem Gh.nokap {a : Addr} (g : Gh Γ κ st H) (h : H a = none) : κ a = none := by
  cases q : κ a with
  | none => rfl
  | some x => exact absurd h (g.trk a x q)
theorem Gh.nokap0 {a : Addr} (g : Gh Γ κ st H) (h : H a = none) : Γ.H0 a = none := by
  cases q : Γ.H0 a with
  | none => rfl
  | some x => exact absurd h (g.trk0 a (by rw [q]; simp))
theorem Ext.upd_new {p : Addr} {o : HO} (g : Gh Γ κ st H) (h : H p = none) : Ext κ H κ (upd H p o) :=
  ⟨fun _ _ e => e, fun a e => upd_ne fun z => by rw [z] at e; rw [g.nokap h] at e; cases e⟩
/-- an unsorted address is laid or changed -/
theorem Ext.upd {p : Addr} {o : HO} (h : κ p = none) : Ext κ H κ (upd H p o) :=
  ⟨fun _ _ e => e, fun a e => upd_ne fun z => by rw [z, h] at e; cases e⟩
theorem Gh.upd {p : Addr} {o : HO} (g : Gh Γ κ st H) (h : κ p = none) (h0 : Γ.H0 p = none) : Gh Γ κ st (upd H p o) := by
  have ne : ∀ b x, κ b = some x → b ≠ p := fun b x e z => by rw [z, h] at e; cases e
  refine ⟨g.sub, g.new, fun b x e => ?_, fun b e => ?_, fun b e => ?_, fun b k e => ?_, g.inj, fun b u e hk => ?_⟩
  · rw [upd_ne (ne b x e)]; exact g.trk b x e
  · by_cases hb : b = p
    · rw [hb, upd_same]; simp
    · rw [upd_ne hb]; exact g.trk0 b e
  · rw [upd_ne (ne b _ e)]; exact g.box b e
  · obtain ⟨so, h1, h2⟩ := g.obj b k e
    exact ⟨so, h1, h2.ext (Ext.upd h) (upd_ne (ne b _ e))⟩
  · rw [upd_ne (fun z => by rw [z, h0] at e; cases e)]; exact g.base b u e hk
theorem Rl.upd_new {p : Addr} {o : HO} (I : Rl Γ κ env σ H) (h : H p = none) : Rl Γ κ env σ (upd H p o) :=
  I.step (Ext.upd_new I.gh h) (fun i a ho => by
    obtain ⟨c, _, hc⟩ := I.ownS ho
    obtain ⟨f1, f2, f3⟩ := hc.facts
    exact ⟨f1, upd_ne fun z => f3 (z ▸ h)⟩) (I.gh.upd (I.gh.nokap h) (I.gh.nokap0 h))
theorem Rl.fresh {p : Addr} (I : Rl Γ κ env σ H) (h : H p = none) : ∀ i, ¬ OwnS env σ i p := fun i ho => by
  obtain ⟨c, _, hc⟩ := I.ownS ho
  exact hc.facts.2.2 h
theorem new_lst {p : Addr} {vs : List V} {ds : List D} (I : Rl Γ κ env σ H) (h : H p = none) (hl : vs.length ≤ sizeLine) (r : RepL Γ.K Γ.cls κ H vs ds) :
    RelR Γ κ (upd H p (.lst vs)) env σ (.ref p) (.own ds) :=
  ⟨p, rfl, ⟨I.gh.nokap h, I.gh.nokap0 h, vs, upd_same, hl, r.mono (Ext.upd_new I.gh h)⟩, I.fresh h⟩
theorem new_dK {p : Addr} {vs : List (Key × V)} {ds : List (Key × D)} (I : Rl Γ κ env σ H) (h : H p = none) (r : PR Γ.K Γ.cls κ H vs ds) :
    RelR Γ κ (upd H p (.dK vs)) env σ (.ref p) (.dK ds) :=
  ⟨p, rfl, ⟨I.gh.nokap h, I.gh.nokap0 h, vs, upd_same, r.mono (Ext.upd_new I.gh h)⟩, I.fresh h⟩
theorem new_dT {p : Addr} {vs : List (List Key × V)} {ds : List (List Key × D)} (I : Rl Γ κ env σ H) (h : H p = none) (r : PR Γ.K Γ.cls κ H vs ds) :
    RelR Γ κ (upd H p (.dT vs)) env σ (.ref p) (.dT ds) :=
  ⟨p, rfl, ⟨I.gh.nokap h, I.gh.nokap0 h, vs, upd_same, r.mono (Ext.upd_new I.gh h)⟩, I.fresh h⟩
/-- a new tuple is data at once -/
theorem new_tup {p : Addr} {vs : List V} {ds : List D} (I : Rl Γ κ env σ H) (h : H p = none) (hl : vs.length ≤ sizeLine) (r : RepL Γ.K Γ.cls κ H vs ds) :
    Ext κ H (put κ p .frz) (upd H p (.tup vs)) ∧ Rl Γ (put κ p .frz) env σ (upd H p (.tup vs)) ∧ Rep Γ.K Γ.cls (put κ p .frz) (upd H p (.tup vs)) (.ref p) (.tup ds) := by
  have J := I.upd_new (o := .tup vs) h
  have k := I.gh.nokap h
  have e : Ext κ H (put κ p .frz) (upd H p (.tup vs)) := (Ext.upd_new I.gh h).trans (Ext.put k)
  exact ⟨e, J.put_frz k (I.gh.nokap0 h) (by rw [upd_same]; simp) (I.fresh h), .tup (.inl ⟨put_same, upd_same⟩) hl (r.mono e)⟩

/-! ### operators -/
/-- a rule by values carries a pure one -/
def OpRef (r : PySem.W.Frag → R2) (p : D → D → (R → Prop) → Prop) : Prop :=
  ∀ (Γ : Gm) (σ : Sl) (κ : Ka) (H : Hp) (env : En) (v u : V) (d e : D) (Q : R → Prop) (Q' : VK), Rl Γ κ env σ H → RepT Γ κ H v d → RepT Γ κ H u e → p d e Q →
    (∀ v' κ' H' r, Ext κ H κ' H' → Rl Γ κ' env σ H' → RelR Γ κ' H' env σ v' r → Q r → Q' v' H') → r Γ.K v u H Q'
def t2 (ta tb : PTE) (p : D → D → (R → Prop) → Prop) : PTE := fun x env Q => ta x env fun r1 e1 => hold r1 e1 fun r1 e1 => tb x e1 fun r2 e2 =>
  match rv r1 e2, rv r2 e2 with
  | some d1, some d2 => p d1 d2 (fun r => Q r e2)
  | _, _ => False
def t1 (ta : PTE) (p : D → (R → Prop) → Prop) : PTE := fun x env Q => ta x env fun r1 e1 =>
  match rv r1 e1 with
  | some d1 => p d1 (fun r => Q r e1)
  | _ => False
variable {Y : Fam} {a b : Expr} {ta tb : PTE} {pos : Pos}
/-- two expressions in a row, both read -/
theorem two_ref {ra rb : XK → TE} {p : D → D → (R → Prop) → Prop} {r : PySem.W.Frag → R2} (hr : OpRef r p)
    (fa : ∀ (Γ : Gm) (σ : Sl) (κ : Ka) (H : Hp) (env : En) (Q : R → En → Prop) (Q' : VK), GK Y Γ → Rl Γ κ env σ H → ta Γ.x env Q →
    (∀ v κ' H' r env', Ext κ H κ' H' → Rl Γ κ' env' σ H' → RelR Γ κ' H' env' σ v r → Q r env' → Q' v H') → ra Γ.E σ H Q')
    (fb : ∀ (Γ : Gm) (σ : Sl) (κ : Ka) (H : Hp) (env : En) (Q : R → En → Prop) (Q' : VK), GK Y Γ → Rl Γ κ env σ H → tb Γ.x env Q →
    (∀ v κ' H' r env', Ext κ H κ' H' → Rl Γ κ' env' σ H' → RelR Γ κ' H' env' σ v r → Q r env' → Q' v H') → rb Γ.E σ H Q')
    {Q : R → En → Prop} {Q' : VK} (hK : GK Y Γ) (I : Rl Γ κ env σ H) (q : t2 ta tb p Γ.x env Q)
    (k : ∀ v κ' H' r env', Ext κ H κ' H' → Rl Γ κ' env' σ H' → RelR Γ κ' H' env' σ v r → Q r env' → Q' v H') :
    ra Γ.E σ H fun x H1 => rb Γ.E σ H1 fun y H2 => r Y.K x y H2 Q' := by
  refine fa Γ σ κ H env _ _ hK I q fun v κ1 H1 r1 e1 x1 I1 h1 q1 => ?_
  refine hold_ok I1 h1 q1 fun κ2 r2 x2 I2 h2 q2 => ?_
  refine fb Γ σ κ2 H1 e1 _ _ hK I2 q2 fun u κ3 H3 r3 e3 x3 I3 h3 q3 => ?_
  have h2' : RelR Γ κ3 H3 e3 σ v r2 := (h2.ext x3).rel
  cases e1' : rv r2 e3 with
  | none => rw [e1'] at q3; exact False.elim q3
  | some d1 =>
    cases e2' : rv r3 e3 with
    | none => rw [e1', e2'] at q3; exact False.elim q3
    | some d2 =>
      rw [e1', e2'] at q3
      rw [← hK.k]
      exact hr Γ σ κ3 H3 e3 v u d1 d2 _ Q' I3 (rv_ok I3 h2' e1') (rv_ok I3 h3 e2') q3 fun v' κ' H' r x I' h' q' => k v' κ' H' r e3 (((x1.trans x2).trans x3).trans x) I' h' q'
theorem ve_op {op : Operator} {r : PySem.W.Frag → R2} {p : D → D → (R → Prop) → Prop} (ho : ∀ X : Cx, OpR X (binaryOp op) (r X.K)) (hr : OpRef r p) (ha : VE Y a ta) (hb : VE Y b tb) : VE Y (.BinOp a op b pos) (t2 ta tb p) := by
  obtain ⟨ra, pa, fa⟩ := ha.ex
  obtain ⟨rb, pb, fb⟩ := hb.ex
  refine ⟨⟨fun E => tOp (r Y.K) (ra E) (rb E), fun i => pe_op (by have := ho (Y.X i); rw [Y.hK i] at this; exact this) (pa i) (pb i), fun Γ σ κ H env Q Q' hK I q k => ?_⟩⟩
  exact two_ref hr fa fb hK I q k
theorem ve_cmp {op : CmpOp} {r : PySem.W.Frag → R2} {p : D → D → (R → Prop) → Prop} (ho : ∀ i, OpR (Y.X i) (compareOp op) (r (Y.X i).K)) (hr : OpRef r p) (ha : VE Y a ta) (hb : VE Y b tb) (hm : behindInMarks op b = false) : VE Y (.Compare a [op] [b] pos) (t2 ta tb p) := by
  obtain ⟨ra, pa, fa⟩ := ha.ex
  obtain ⟨rb, pb, fb⟩ := hb.ex
  refine ⟨⟨fun E => tOp (r Y.K) (ra E) (rb E), fun i => pe_cmpR (by have := ho i; rw [Y.hK i] at this; exact this) (pa i) (pb i) hm, fun Γ σ κ H env Q Q' hK I q k => ?_⟩⟩
  exact two_ref hr fa fb hK I q k
/-- a bool as a test -/
def tB (t : PTE) : PTT := fun x env Q => t x env fun r e => match rv r e with
  | some (.bl b) => Q b e
  | _ => False
theorem vt_val {e : Expr} {t : PTE} (h : VE Y e t) (he : ∀ (X : Cx) whole, isTrue e X.env whole = (do let v ← whole; standAt e.pos; holding [v] (truthy v)) := by intro _ _; rfl) : VT Y e (tB t) := by
  obtain ⟨ra, pa, fa⟩ := h.ex
  refine ⟨⟨fun E => L2.tB (ra E), fun i => pt_val (pa i) (he _), fun Γ σ κ H env Q Q' hK I q k => ?_⟩⟩
  refine fa Γ σ κ H env _ _ hK I q fun v κ1 H1 r1 e1 x1 I1 h1 q1 => ?_
  cases e1' : rv r1 e1 with
  | none => rw [e1'] at q1; exact False.elim q1
  | some d =>
    rw [e1'] at q1
    have rt := rv_ok I1 h1 e1'
    cases d with
    | bl b => cases rt; exact ⟨b, rfl, k b κ1 H1 e1 x1 I1 q1⟩
    | _ => exact False.elim q1
theorem vt_cmp {op : CmpOp} {r : PySem.W.Frag → R2} {p : D → D → (R → Prop) → Prop} (ho : ∀ i, OpR (Y.X i) (compareOp op) (r (Y.X i).K)) (hr : OpRef r p) (ha : VE Y a ta) (hb : VE Y b tb) (hm : behindInMarks op b = false) : VT Y (.Compare a [op] [b] pos) (tB (t2 ta tb p)) := by
  obtain ⟨ra, pa, fa⟩ := ha.ex
  obtain ⟨rb, pb, fb⟩ := hb.ex
  refine ⟨⟨fun E => tTest (tOp (r Y.K) (ra E) (rb E)), fun i => pt_cmpR (by have := ho i; rw [Y.hK i] at this; exact this) (pa i) (pb i) hm, fun Γ σ κ H env Q Q' hK I q k => ?_⟩⟩
  refine two_ref hr fa fb hK I q fun v κ1 H1 r1 e1 x1 I1 h1 q1 => ?_
  cases e1' : rv r1 e1 with
  | none => rw [e1'] at q1; exact False.elim q1
  | some d =>
    rw [e1'] at q1
    have rt := rv_ok I1 h1 e1'
    cases d with
    | bl b => cases rt; exact ⟨b, rfl, k b κ1 H1 e1 x1 I1 q1⟩
    | _ => exact False.elim q1

/-! ### names and constants -/
def tName (i : Nat) : PTE := fun _ env Q => match env.sl[i]? with
  | some (.d d) => Q (.d d) env
  | some .un => False
  | none => False
  | some _ => Q (.nam i) env
theorem ve_name (i : Nat) {x : Str} (hN : ∀ j, (Y.X j).N[i]? = some x := by intro _; rfl) (hv : ∀ j, Vis (Y.X j).env.scope x := by first | exact fun _ => Or.inl rfl | exact fun _ => Or.inr (Or.inl rfl) | exact fun _ => Or.inr (Or.inr rfl))
    (hd : (x == ("__debug__" : Str)) = false := by decide) (hcd : (x == ("__classdict__" : Str)) = false := by decide) : VE Y (.Name x pos) (tName i) := by
  refine ⟨⟨fun _ => tVar i, fun j => pe_var (hN j) (hv j) hd hcd, fun Γ σ κ H env Q Q' hK I q k => ?_⟩⟩
  unfold tName at q
  cases e : env.sl[i]? with
  | none => rw [e] at q; exact False.elim q
  | some c =>
    have s := I.get e
    rw [e] at q
    cases c with
    | un => exact False.elim q
    | d d => obtain ⟨v, e1, r⟩ := s; exact ⟨v, e1, k v κ H (.d d) env (.refl ..) I r q⟩
    | own ds => obtain ⟨a, e1, r⟩ := s; exact ⟨.ref a, e1, k _ κ H (.nam i) env (.refl ..) I e1 q⟩
    | dK ds => obtain ⟨a, e1, r⟩ := s; exact ⟨.ref a, e1, k _ κ H (.nam i) env (.refl ..) I e1 q⟩
    | dT ds => obtain ⟨a, e1, r⟩ := s; exact ⟨.ref a, e1, k _ κ H (.nam i) env (.refl ..) I e1 q⟩
def tD (d : D) : PTE := fun _ env Q => Q (.d d) env
theorem ve_int {i j} : VE Y (.Constant (.int i) j pos) (tD (.int i)) := ⟨⟨fun _ => tC (.int i), fun _ => pe_int, fun Γ σ κ H env Q Q' hK I q k => k _ κ H (.d (.int i)) env (.refl ..) I (.int i) q⟩⟩
theorem ve_bl {i j} : VE Y (.Constant (.bool i) j pos) (tD (.bl i)) := ⟨⟨fun _ => tC (.bl i), fun _ => pe_bl, fun Γ σ κ H env Q Q' hK I q k => k _ κ H (.d (.bl i)) env (.refl ..) I (.bl i) q⟩⟩
theorem ve_non {j} : VE Y (.Constant .none j pos) (tD .non) := ⟨⟨fun _ => tC .non, fun _ => pe_non, fun Γ σ κ H env Q Q' hK I q k => k _ κ H (.d .non) env (.refl ..) I .non q⟩⟩
theorem ve_str (l : List Nat) {x : Str} {j} (hx : x = ⟨l.toArray⟩ := by decide +kernel) (hl : SOk l := by decide +kernel) : VE Y (.Constant (.str x) j pos) (tD (.str l)) := by
  subst hx
  exact ⟨⟨fun _ => tC (.str ⟨l.toArray⟩), fun _ => pe_str, fun Γ σ κ H env Q Q' hK I q k => k _ κ H (.d (.str l)) env (.refl ..) I (.str l hl) q⟩⟩
/-- a text that the top has bound -/
theorem ve_globS (l : List Nat) {x y : Str} {t : Tok} (hm : ∀ i, (Y.X i).mg x = some (.str y t)) (hg : ∀ i, Gl (Y.X i) x := by intro _; rfl) (hy : y = ⟨l.toArray⟩ := by decide +kernel) (hl : SOk l := by decide +kernel) (hd : (x == ("__debug__" : Str)) = false := by decide) :
    VE Y (.Name x pos) (tD (.str l)) := by
  subst hy
  exact ⟨⟨fun _ => tC (.str ⟨l.toArray⟩), fun i => pe_glob (hg i) (hm i) ⟨_, rfl⟩ hd, fun Γ σ κ H env Q Q' hK I q k => k _ κ H (.d (.str l)) env (.refl ..) I (.str l hl) q⟩⟩
theorem ve_globI {x : Str} {n : Int} {t : Tok} (hm : ∀ i, (Y.X i).mg x = some (.int n t)) (hg : ∀ i, Gl (Y.X i) x := by intro _; rfl) (hd : (x == ("__debug__" : Str)) = false := by decide) :
    VE Y (.Name x pos) (tD (.int n)) :=
  ⟨⟨fun _ => tC (.int n), fun i => pe_glob (hg i) (hm i) ⟨_, rfl⟩ hd, fun Γ σ κ H env Q Q' hK I q k => k _ κ H (.d (.int n)) env (.refl ..) I (.int n) q⟩⟩

/-! ### arithmetic, texts, lists: + -/
def pAdd (d e : D) (Q : R → Prop) : Prop := match d, e with
  | .int i, .int j => Q (.d (.int (i + j)))
  | .str s, .str t => s.length + t.length ≤ sizeLine ∧ Q (.d (.str (s ++ t)))
  | .lst xs, .lst ys => xs.length + ys.length ≤ sizeLine ∧ Q (.own (xs ++ ys))
  | .tup xs, .tup ys => xs ≠ [] ∧ ys ≠ [] ∧ xs.length + ys.length ≤ sizeLine ∧ Q (.d (.tup (xs ++ ys)))
  | _, _ => False
def rStrAdd : R2 := fun x y H Q => ∃ i j, x = .str i ∧ y = .str j ∧ i.length + j.length ≤ sizeLine ∧ Q (.str (i ++ j)) H
def rAddAll (K : PySem.W.Frag) : R2 := fun x y H Q => rI0 (fun i j => .int (i + j)) x y H Q ∨ rStrAdd x y H Q ∨ rCat x y H Q ∨ rCatT K x y H Q
theorem op_addAll (X : Cx) : OpR X (binaryOp .Add) (rAddAll X.K) := OpR.or op_add (OpR.or op_add_str (OpR.or op_cat op_catT))
theorem str_add (s t : List Nat) : ((⟨s.toArray⟩ : Str) ++ (⟨t.toArray⟩ : Str)) = ⟨(s ++ t).toArray⟩ := by
  show Str.append _ _ = _
  unfold Str.append
  simp
theorem str_len (s : List Nat) : (⟨s.toArray⟩ : Str).length = s.length := by
  unfold Str.length
  simp
theorem Rep.strE {K : PySem.W.Frag} {cl : Nat → Addr} {s : List Nat} (h : Rep K cl κ H v (.str s)) : v = .str ⟨s.toArray⟩ ∧ SOk s := by cases h with | str _ h => exact ⟨rfl, h⟩
theorem Rep.sqT {K : PySem.W.Frag} {cl : Nat → Addr} {ds : List D} (h : Rep K cl κ H v (.tup ds)) : ∃ a vs, v = .ref a ∧ SqT K H a vs ∧ vs.length ≤ sizeLine ∧ RepL K cl κ H vs ds := by
  cases h with
  | tup h1 h2 h3 =>
    refine ⟨_, _, rfl, ?_, h2, h3⟩
    rcases h1 with ⟨_, h1⟩ | h1
    · exact SqT.of h1
    · exact .inr h1
theorem SOk.append {s t : List Nat} (h : SOk s) (g : SOk t) (q : s.length + t.length ≤ sizeLine) : SOk (s ++ t) :=
  ⟨by rw [List.length_append]; exact q, fun c hc => (List.mem_append.mp hc).elim (h.2 c) (g.2 c)⟩
theorem ref_add : OpRef rAddAll pAdd := by
  intro Γ σ κ H env v u d e Q Q' I hd he q k
  cases d with
  | int i =>
    cases e with
    | int j => cases hd; cases he; exact .inl ⟨i, j, rfl, rfl, k _ κ H (.d (.int (i + j))) (.refl ..) I (.int _) q⟩
    | _ => exact False.elim q
  | str s =>
    cases e with
    | str t =>
      obtain ⟨rfl, h1⟩ := hd.strE
      obtain ⟨rfl, h2⟩ := he.strE
      refine .inr (.inl ⟨_, _, rfl, rfl, by rw [str_len, str_len]; exact q.1, ?_⟩)
      rw [str_add]
      exact k _ κ H (.d (.str (s ++ t))) (.refl ..) I (.str _ (h1.append h2 q.1)) q.2
    | _ => exact False.elim q
  | lst xs =>
    cases e with
    | lst ys =>
      obtain ⟨a, vs, rfl, h1, h2, h3⟩ := hd
      obtain ⟨b, ws, rfl, g1, g2, g3⟩ := he
      refine .inr (.inr (.inl ⟨a, b, vs, ws, rfl, rfl, h1, g1, by rw [h3.length, g3.length]; exact q.1, fun p hp => ?_⟩))
      refine k _ κ _ (.own (xs ++ ys)) (Ext.upd_new I.gh hp) (I.upd_new hp) (new_lst I hp (by rw [List.length_append, h3.length, g3.length]; exact q.1) (h3.append g3)) q.2
    | _ => exact False.elim q
  | tup xs =>
    cases e with
    | tup ys =>
      obtain ⟨a, vs, rfl, h1, h2, h3⟩ := Rep.sqT hd
      obtain ⟨b, ws, rfl, g1, g2, g3⟩ := Rep.sqT he
      have n1 : vs ≠ [] := fun z => q.1 (List.eq_nil_of_length_eq_zero (by rw [← h3.length, z]; rfl))
      have n2 : ws ≠ [] := fun z => q.2.1 (List.eq_nil_of_length_eq_zero (by rw [← g3.length, z]; rfl))
      refine .inr (.inr (.inr ⟨a, b, vs, ws, rfl, rfl, h1, g1, n1, by rw [h3.length, g3.length]; exact q.2.2.1, fun z => absurd z n2, fun _ p hp => ?_⟩))
      obtain ⟨x1, I1, r1⟩ := new_tup I hp (by rw [List.length_append, h3.length, g3.length]; exact q.2.2.1) (h3.append g3)
      exact k _ _ _ (.d (.tup (xs ++ ys))) x1 I1 r1 q.2.2.2
    | _ => exact False.elim q
  | _ => exact False.elim q
theorem ve_add (ha : VE Y a ta) (hb : VE Y b tb) : VE Y (.BinOp a .Add b pos) (t2 ta tb pAdd) := ve_op op_addAll ref_add ha hb
/-- two ints -/
def pI (C : Int → Int → Prop) (f : Int → Int → D) (d e : D) (Q : R → Prop) : Prop := match d, e with
  | .int i, .int j => C i j ∧ Q (.d (f i j))
  | _, _ => False
theorem ref_I {C : Int → Int → Prop} {f : Int → Int → Int} : OpRef (fun _ => rI C fun i j => .int (f i j)) (pI C fun i j => .int (f i j)) := by
  intro Γ σ κ H env v u d e Q Q' I hd he q k
  cases d with
  | int i =>
    cases e with
    | int j => cases hd; cases he; exact ⟨i, j, rfl, rfl, q.1, k _ κ H (.d (.int (f i j))) (.refl ..) I (.int _) q.2⟩
    | _ => exact False.elim q
  | _ => exact False.elim q
theorem ref_I0 {f : Int → Int → Int} : OpRef (fun _ => rI0 fun i j => .int (f i j)) (pI (fun _ _ => True) fun i j => .int (f i j)) := by
  intro Γ σ κ H env v u d e Q Q' I hd he q k
  cases d with
  | int i =>
    cases e with
    | int j => cases hd; cases he; exact ⟨i, j, rfl, rfl, k _ κ H (.d (.int (f i j))) (.refl ..) I (.int _) q.2⟩
    | _ => exact False.elim q
  | _ => exact False.elim q
theorem ve_sub (ha : VE Y a ta) (hb : VE Y b tb) : VE Y (.BinOp a .Sub b pos) (t2 ta tb (pI (fun _ _ => True) fun i j => .int (i - j))) := ve_op (fun _ => op_sub) ref_I0 ha hb
theorem ve_mod (ha : VE Y a ta) (hb : VE Y b tb) : VE Y (.BinOp a .Mod b pos) (t2 ta tb (pI (fun _ j => 0 < j) fun i j => .int (i % j))) := ve_op (fun _ => op_mod) ref_I ha hb
theorem ve_fdiv (ha : VE Y a ta) (hb : VE Y b tb) : VE Y (.BinOp a .FloorDiv b pos) (t2 ta tb (pI CDivW fun i j => .int (i / j))) := ve_op (fun _ => op_fdivW) ref_I ha hb
theorem ve_pow (ha : VE Y a ta) (hb : VE Y b tb) : VE Y (.BinOp a .Pow b pos) (t2 ta tb (pI CPow fun i j => .int (i ^ j.toNat))) := ve_op (fun _ => op_pow) ref_I ha hb
/-- ints compared -/
def pC (f : Int → Int → Bool) (d e : D) (Q : R → Prop) : Prop := match d, e with
  | .int i, .int j => Q (.d (.bl (f i j)))
  | _, _ => False
theorem ref_C {f : Int → Int → Bool} : OpRef (fun _ => rI0 fun i j => .bl (f i j)) (pC f) := by
  intro Γ σ κ H env v u d e Q Q' I hd he q k
  cases d with
  | int i =>
    cases e with
    | int j => cases hd; cases he; exact ⟨i, j, rfl, rfl, k _ κ H (.d (.bl (f i j))) (.refl ..) I (.bl _) q⟩
    | _ => exact False.elim q
  | _ => exact False.elim q
end
end Pu
set_option maxRecDepth 100000
set_option maxHeartbeats 4000000
namespace Pu
open PySem L2

/-! ### == of data -/
mutual
def D.py : D → PyData
  | .non => .none
  | .bl b => .bool b
  | .int i => .int i
  | .str s => .str ⟨s.toArray⟩
  | .lst ds => .list (D.pyL ds)
  | .tup ds => .tuple (D.pyL ds)
  | .scr _ => .none
  | .box => .none
  | .ref _ => .none
  | .cls _ => .none
  | .exc _ _ _ => .none
def D.pyL : List D → List PyData
  | [] => []
  | d :: ds => d.py :: D.pyL ds
end
mutual
/-- no object within, not too deep -/
def D.ok : D → Nat → Bool
  | .non, _ => true
  | .bl _, _ => true
  | .int _, _ => true
  | .str _, _ => true
  | .lst ds, n + 1 => D.okL ds n
  | .tup ds, n + 1 => D.okL ds n
  | .lst _, 0 => false
  | .tup _, 0 => false
  | .scr _, _ => false
  | .box, _ => false
  | .ref _, _ => false
  | .cls _, _ => false
  | .exc _ _ _, _ => false
def D.okL : List D → Nat → Bool
  | [], _ => true
  | d :: ds, n => d.ok n && D.okL ds n
end
mutual
def D.eq : D → D → Bool
  | .non, .non => true
  | .bl a, .bl b => a == b
  | .bl a, .int j => (if a then 1 else 0) == j
  | .int i, .bl b => i == (if b then 1 else 0)
  | .int i, .int j => i == j
  | .str x, .str y => x == y
  | .lst xs, .lst ys => D.eqL xs ys
  | .tup xs, .tup ys => D.eqL xs ys
  | _, _ => false
def D.eqL : List D → List D → Bool
  | [], [] => true
  | x :: xs, y :: ys => D.eq x y && D.eqL xs ys
  | _, _ => false
end
theorem str_beq (x y : List Nat) : ((⟨x.toArray⟩ : Str) == (⟨y.toArray⟩ : Str)) = (x == y) := by
  by_cases h : x = y
  · subst h; simp
  · have h2 : ¬ (⟨x.toArray⟩ : Str) = ⟨y.toArray⟩ := fun z => h (by injection z with z; simpa using z)
    rw [beq_eq_false_iff_ne.mpr h, beq_eq_false_iff_ne.mpr h2]
mutual
theorem D.eqv_eq : ∀ (d e : D) (n m : Nat), d.ok n = true → e.ok m = true → PyData.eqv d.py e.py = D.eq d e
  | .lst xs, .lst ys, n + 1, m + 1, h, g => by
    simp only [D.py, PyData.eqv, D.eq]
    exact D.eqvL_eq xs ys n m (by simpa [D.ok] using h) (by simpa [D.ok] using g)
  | .tup xs, .tup ys, n + 1, m + 1, h, g => by
    simp only [D.py, PyData.eqv, D.eq]
    exact D.eqvL_eq xs ys n m (by simpa [D.ok] using h) (by simpa [D.ok] using g)
  | .str x, .str y, _, _, _, _ => by simp only [D.py, PyData.eqv, D.eq, str_beq]
  | .lst _, _, 0, _, h, _ => by simp [D.ok] at h
  | .tup _, _, 0, _, h, _ => by simp [D.ok] at h
  | _, .lst _, _, 0, _, h => by simp [D.ok] at h
  | _, .tup _, _, 0, _, h => by simp [D.ok] at h
  | .scr _, _, _, _, h, _ => by simp [D.ok] at h
  | .box, _, _, _, h, _ => by simp [D.ok] at h
  | .ref _, _, _, _, h, _ => by simp [D.ok] at h
  | .cls _, _, _, _, h, _ => by simp [D.ok] at h
  | .exc _ _ _, _, _, _, h, _ => by simp [D.ok] at h
  | _, .scr _, _, _, _, h => by simp [D.ok] at h
  | _, .box, _, _, _, h => by simp [D.ok] at h
  | _, .ref _, _, _, _, h => by simp [D.ok] at h
  | _, .cls _, _, _, _, h => by simp [D.ok] at h
  | _, .exc _ _ _, _, _, _, h => by simp [D.ok] at h
  | .non, .non, _, _, _, _ => by simp only [D.py, PyData.eqv, D.eq]
  | .non, .bl _, _, _, _, _ => by simp only [D.py, PyData.eqv, D.eq]
  | .non, .int _, _, _, _, _ => by simp only [D.py, PyData.eqv, D.eq]
  | .non, .str _, _, _, _, _ => by simp only [D.py, PyData.eqv, D.eq]
  | .non, .lst _, _, _ + 1, _, _ => by simp only [D.py, PyData.eqv, D.eq]
  | .non, .tup _, _, _ + 1, _, _ => by simp only [D.py, PyData.eqv, D.eq]
  | .bl _, .non, _, _, _, _ => by simp only [D.py, PyData.eqv, D.eq]
  | .bl _, .bl _, _, _, _, _ => by simp only [D.py, PyData.eqv, D.eq]
  | .bl _, .int _, _, _, _, _ => by simp only [D.py, PyData.eqv, D.eq]
  | .bl _, .str _, _, _, _, _ => by simp only [D.py, PyData.eqv, D.eq]
  | .bl _, .lst _, _, _ + 1, _, _ => by simp only [D.py, PyData.eqv, D.eq]
  | .bl _, .tup _, _, _ + 1, _, _ => by simp only [D.py, PyData.eqv, D.eq]
  | .int _, .non, _, _, _, _ => by simp only [D.py, PyData.eqv, D.eq]
  | .int _, .bl _, _, _, _, _ => by simp only [D.py, PyData.eqv, D.eq]
  | .int _, .int _, _, _, _, _ => by simp only [D.py, PyData.eqv, D.eq]
  | .int _, .str _, _, _, _, _ => by simp only [D.py, PyData.eqv, D.eq]
  | .int _, .lst _, _, _ + 1, _, _ => by simp only [D.py, PyData.eqv, D.eq]
  | .int _, .tup _, _, _ + 1, _, _ => by simp only [D.py, PyData.eqv, D.eq]
  | .str _, .non, _, _, _, _ => by simp only [D.py, PyData.eqv, D.eq]
  | .str _, .bl _, _, _, _, _ => by simp only [D.py, PyData.eqv, D.eq]
  | .str _, .int _, _, _, _, _ => by simp only [D.py, PyData.eqv, D.eq]
  | .str _, .lst _, _, _ + 1, _, _ => by simp only [D.py, PyData.eqv, D.eq]
  | .str _, .tup _, _, _ + 1, _, _ => by simp only [D.py, PyData.eqv, D.eq]
  | .lst _, .non, _ + 1, _, _, _ => by simp only [D.py, PyData.eqv, D.eq]
  | .lst _, .bl _, _ + 1, _, _, _ => by simp only [D.py, PyData.eqv, D.eq]
  | .lst _, .int _, _ + 1, _, _, _ => by simp only [D.py, PyData.eqv, D.eq]
  | .lst _, .str _, _ + 1, _, _, _ => by simp only [D.py, PyData.eqv, D.eq]
  | .lst _, .tup _, _ + 1, _ + 1, _, _ => by simp only [D.py, PyData.eqv, D.eq]
  | .tup _, .non, _ + 1, _, _, _ => by simp only [D.py, PyData.eqv, D.eq]
  | .tup _, .bl _, _ + 1, _, _, _ => by simp only [D.py, PyData.eqv, D.eq]
  | .tup _, .int _, _ + 1, _, _, _ => by simp only [D.py, PyData.eqv, D.eq]
  | .tup _, .str _, _ + 1, _, _, _ => by simp only [D.py, PyData.eqv, D.eq]
  | .tup _, .lst _, _ + 1, _ + 1, _, _ => by simp only [D.py, PyData.eqv, D.eq]
theorem D.eqvL_eq : ∀ (xs ys : List D) (n m : Nat), D.okL xs n = true → D.okL ys m = true → PyData.eqvAll (D.pyL xs) (D.pyL ys) = D.eqL xs ys
  | [], [], _, _, _, _ => by simp only [D.pyL, PyData.eqvAll, D.eqL]
  | [], _ :: _, _, _, _, _ => by simp only [D.pyL, PyData.eqvAll, D.eqL]
  | _ :: _, [], _, _, _, _ => by simp only [D.pyL, PyData.eqvAll, D.eqL]
  | x :: xs, y :: ys, n, m, h, g => by
    simp only [D.okL, Bool.and_eq_true] at h g
    simp only [D.pyL, PyData.eqvAll, D.eqL]
    rw [D.eqv_eq x y n m h.1 g.1, D.eqvL_eq xs ys n m h.2 g.2]
end
mutual
theorem D.ok_depth : ∀ (d : D) (n : Nat), d.ok n = true → d.py.depth ≤ n
  | .lst xs, n + 1, h => by
    simp only [D.py, PyData.depth]
    have := D.okL_depth xs n (by simpa [D.ok] using h)
    omega
  | .tup xs, n + 1, h => by
    simp only [D.py, PyData.depth]
    have := D.okL_depth xs n (by simpa [D.ok] using h)
    omega
  | .lst _, 0, h => by simp [D.ok] at h
  | .tup _, 0, h => by simp [D.ok] at h
  | .non, _, _ => by simp [D.py, PyData.depth]
  | .bl _, _, _ => by simp [D.py, PyData.depth]
  | .int _, _, _ => by simp [D.py, PyData.depth]
  | .str _, _, _ => by simp [D.py, PyData.depth]
  | .scr _, _, _ => by simp [D.py, PyData.depth]
  | .box, _, _ => by simp [D.py, PyData.depth]
  | .ref _, _, _ => by simp [D.py, PyData.depth]
  | .cls _, _, _ => by simp [D.py, PyData.depth]
  | .exc _ _ _, _, _ => by simp [D.py, PyData.depth]
theorem D.okL_depth : ∀ (xs : List D) (n : Nat), D.okL xs n = true → PyData.depthAll (D.pyL xs) ≤ n
  | [], _, _ => by simp [D.pyL, PyData.depthAll]
  | x :: xs, n, h => by
    simp only [D.okL, Bool.and_eq_true] at h
    simp only [D.pyL, PyData.depthAll]
    have h1 := D.ok_depth x n h.1
    have h2 := D.okL_depth xs n h.2
    omega
end
theorem strOk_of {l : List Nat} (h : SOk l) : PyData.strOk ⟨l.toArray⟩ = true := by
  unfold PyData.strOk
  simp only [List.all_toArray, List.all_eq_true, decide_eq_true_eq]
  exact h.2
section
variable {K : PySem.W.Frag} {cl : Nat → Addr} {κ : Ka} {H : Hp}
mutual
theorem Rep.dp : ∀ {d : D} {v : V} {n : Nat}, Rep K cl κ H v d → d.ok n = true → Dp K H v d.py ∧ d.py.canLay0 = true
  | .non, _, _, h, _ => by cases h; exact ⟨.non, rfl⟩
  | .bl b, _, _, h, _ => by cases h; exact ⟨.bl b, rfl⟩
  | .int i, _, _, h, _ => by cases h; exact ⟨.int i, rfl⟩
  | .str l, _, _, h, _ => by
    obtain ⟨rfl, hl⟩ := h.strE
    exact ⟨.str _, by simp only [D.py, PyData.canLay0]; exact strOk_of hl⟩
  | .lst ds, _, n + 1, h, ok => by
    cases h with
    | lst h1 h2 h3 h4 =>
      obtain ⟨g1, g2⟩ := RepL.dp (n := n) h4 (by simpa [D.ok] using ok)
      exact ⟨.lst (SqL.of h2) g1, by simp only [D.py, PyData.canLay0]; exact g2⟩
  | .tup ds, _, n + 1, h, ok => by
    obtain ⟨a, vs, rfl, h2, h3, h4⟩ := h.sqT
    obtain ⟨g1, g2⟩ := RepL.dp (n := n) h4 (by simpa [D.ok] using ok)
    exact ⟨.tup h2 g1, by simp only [D.py, PyData.canLay0]; exact g2⟩
  | .lst _, _, 0, _, ok => by simp [D.ok] at ok
  | .tup _, _, 0, _, ok => by simp [D.ok] at ok
  | .scr _, _, _, _, ok => by simp [D.ok] at ok
  | .box, _, _, _, ok => by simp [D.ok] at ok
  | .ref _, _, _, _, ok => by simp [D.ok] at ok
  | .cls _, _, _, _, ok => by simp [D.ok] at ok
  | .exc _ _ _, _, _, _, ok => by simp [D.ok] at ok
theorem RepL.dp : ∀ {ds : List D} {vs : List V} {n : Nat}, RepL K cl κ H vs ds → D.okL ds n = true → DpAll K H vs (D.pyL ds) ∧ PyData.canLayAll0 (D.pyL ds) = true
  | [], _, _, h, _ => by cases h; exact ⟨.nil, rfl⟩
  | d :: ds, _, n, h, ok => by
    cases h with
    | cons h1 h2 =>
      simp only [D.okL, Bool.and_eq_true] at ok
      obtain ⟨a1, a2⟩ := Rep.dp h1 ok.1
      obtain ⟨b1, b2⟩ := RepL.dp h2 ok.2
      exact ⟨.cons a1 b1, by simp only [D.pyL, PyData.canLayAll0]; rw [a2, b2]; rfl⟩
end
end
section
variable {Γ : Gm} {κ κ' : Ka} {H H' : Hp} {env env' : En} {σ : Sl} {v : V} {st : Sto}
theorem RepT.dp {d : D} (h : RepT Γ κ H v d) (ok : d.ok 64 = true) : Dp Γ.K H v d.py ∧ SeqAt.shaped d.py = true := by
  have key : Dp Γ.K H v d.py ∧ d.py.canLay0 = true := by
    cases d with
    | lst ds =>
      obtain ⟨a, vs, rfl, h1, h2, h3⟩ := h
      obtain ⟨g1, g2⟩ := RepL.dp (n := 63) h3 (by simpa [D.ok] using ok)
      exact ⟨.lst (SqL.of h1) g1, by simp only [D.py, PyData.canLay0]; exact g2⟩
    | _ => exact Rep.dp h ok
  refine ⟨key.1, ?_⟩
  unfold SeqAt.shaped
  rw [key.2, decide_eq_true (D.ok_depth d 64 ok)]
  rfl
def pEq (d e : D) (Q : R → Prop) : Prop := d.ok 64 = true ∧ e.ok 64 = true ∧ Q (.d (.bl (D.eq d e)))
def pNe (d e : D) (Q : R → Prop) : Prop := d.ok 64 = true ∧ e.ok 64 = true ∧ Q (.d (.bl (!D.eq d e)))
theorem ref_eq : OpRef rEqD pEq := by
  intro Γ σ κ H env v u d e Q Q' I hd he q k
  obtain ⟨a1, a2⟩ := hd.dp q.1
  obtain ⟨b1, b2⟩ := he.dp q.2.1
  refine ⟨_, _, a1, b1, a2, b2, ?_⟩
  rw [D.eqv_eq d e 64 64 q.1 q.2.1]
  exact k _ κ H (.d (.bl (D.eq d e))) (.refl ..) I (.bl _) q.2.2
theorem ref_ne : OpRef rNeD pNe := by
  intro Γ σ κ H env v u d e Q Q' I hd he q k
  obtain ⟨a1, a2⟩ := hd.dp q.1
  obtain ⟨b1, b2⟩ := he.dp q.2.1
  refine ⟨_, _, a1, b1, a2, b2, ?_⟩
  rw [D.eqv_eq d e 64 64 q.1 q.2.1]
  exact k _ κ H (.d (.bl (!D.eq d e))) (.refl ..) I (.bl _) q.2.2
variable {Y : Fam} {a b : Expr} {ta tb : PTE} {pos : Pos}
/-- room for built-in work -/
abbrev Hu (Y : Fam) : Prop := ∀ i, (Y.X i).A.units + 65 < cLine
theorem ve_eq (hu : Hu Y) (ha : VE Y a ta) (hb : VE Y b tb) : VE Y (.Compare a [.Eq] [b] pos) (t2 ta tb pEq) := ve_cmp (fun i => op_eqD (by have := hu i; omega)) ref_eq ha hb (nomark _)
theorem ve_ne (hu : Hu Y) (ha : VE Y a ta) (hb : VE Y b tb) : VE Y (.Compare a [.NotEq] [b] pos) (t2 ta tb pNe) := ve_cmp (fun i => op_neD (by have := hu i; omega)) ref_ne ha hb (nomark _)
theorem vt_eq (hu : Hu Y) (ha : VE Y a ta) (hb : VE Y b tb) : VT Y (.Compare a [.Eq] [b] pos) (tB (t2 ta tb pEq)) := vt_cmp (fun i => op_eqD (by have := hu i; omega)) ref_eq ha hb (nomark _)
theorem vt_ne (hu : Hu Y) (ha : VE Y a ta) (hb : VE Y b tb) : VT Y (.Compare a [.NotEq] [b] pos) (tB (t2 ta tb pNe)) := vt_cmp (fun i => op_neD (by have := hu i; omega)) ref_ne ha hb (nomark _)

/-! ### order -/
/-- <, of ints and of texts -/
def pLt (d e : D) (Q : R → Prop) : Prop := match d, e with
  | .int i, .int j => Q (.d (.bl (decide (i < j))))
  | .str i, .str j => Q (.d (.bl (decide (i < j))))
  | _, _ => False
def pLe (d e : D) (Q : R → Prop) : Prop := match d, e with
  | .int i, .int j => Q (.d (.bl (decide (i ≤ j))))
  | .str i, .str j => Q (.d (.bl (!decide (j < i))))
  | _, _ => False
def pGt (d e : D) (Q : R → Prop) : Prop := match d, e with
  | .int i, .int j => Q (.d (.bl (decide (j < i))))
  | .str i, .str j => Q (.d (.bl (decide (j < i))))
  | _, _ => False
def pGe (d e : D) (Q : R → Prop) : Prop := match d, e with
  | .int i, .int j => Q (.d (.bl (decide (j ≤ i))))
  | .str i, .str j => Q (.d (.bl (!decide (i < j))))
  | _, _ => False
def rS (f : List Nat → List Nat → Bool) : R2 := fun x y H Q => ∃ i j : Str, x = .str i ∧ y = .str j ∧ Q (.bl (f i.cps.toList j.cps.toList)) H
def rOrd (f : Int → Int → Bool) (g : List Nat → List Nat → Bool) : PySem.W.Frag → R2 := fun _ x y H Q => rI0 (fun i j => .bl (f i j)) x y H Q ∨ rS g x y H Q
theorem ref_ord {f : Int → Int → Bool} {g : List Nat → List Nat → Bool} {p : D → D → (R → Prop) → Prop} (h1 : ∀ i j Q, p (.int i) (.int j) Q → Q (.d (.bl (f i j)))) (h2 : ∀ i j Q, p (.str i) (.str j) Q → Q (.d (.bl (g i j))))
    (h3 : ∀ d e Q, p d e Q → (∃ i j, d = .int i ∧ e = .int j) ∨ ∃ i j, d = .str i ∧ e = .str j) : OpRef (rOrd f g) p := by
  intro Γ σ κ H env v u d e Q Q' I hd he q k
  rcases h3 d e Q q with ⟨i, j, rfl, rfl⟩ | ⟨i, j, rfl, rfl⟩
  · cases hd; cases he
    exact .inl ⟨i, j, rfl, rfl, k _ κ H (.d (.bl (f i j))) (.refl ..) I (.bl _) (h1 i j Q q)⟩
  · obtain ⟨rfl, _⟩ := Rep.strE hd
    obtain ⟨rfl, _⟩ := Rep.strE he
    exact .inr ⟨_, _, rfl, rfl, k _ κ H (.d (.bl (g i j))) (.refl ..) I (.bl _) (h2 i j Q q)⟩
theorem ord3 {p : D → D → (R → Prop) → Prop} (h : ∀ d e Q, p d e Q → match d, e with | .int _, .int _ => True | .str _, .str _ => True | _, _ => False) : ∀ d e Q, p d e Q → (∃ i j, d = .int i ∧ e = .int j) ∨ ∃ i j, d = .str i ∧ e = .str j := by
  intro d e Q q
  have := h d e Q q
  cases d <;> cases e <;> first | exact .inl ⟨_, _, rfl, rfl⟩ | exact .inr ⟨_, _, rfl, rfl⟩ | exact False.elim this
theorem ref_lt : OpRef (rOrd (fun i j => decide (i < j)) fun i j => decide (i < j)) pLt := ref_ord (fun _ _ _ q => q) (fun _ _ _ q => q) (ord3 fun d e Q q => by unfold pLt at q; split at q <;> first | trivial | exact q.elim)
theorem ref_le : OpRef (rOrd (fun i j => decide (i ≤ j)) fun i j => !decide (j < i)) pLe := ref_ord (fun _ _ _ q => q) (fun _ _ _ q => q) (ord3 fun d e Q q => by unfold pLe at q; split at q <;> first | trivial | exact q.elim)
theorem ref_gt : OpRef (rOrd (fun i j => decide (j < i)) fun i j => decide (j < i)) pGt := ref_ord (fun _ _ _ q => q) (fun _ _ _ q => q) (ord3 fun d e Q q => by unfold pGt at q; split at q <;> first | trivial | exact q.elim)
theorem ref_ge : OpRef (rOrd (fun i j => decide (j ≤ i)) fun i j => !decide (i < j)) pGe := ref_ord (fun _ _ _ q => q) (fun _ _ _ q => q) (ord3 fun d e Q q => by unfold pGe at q; split at q <;> first | trivial | exact q.elim)
theorem o_lt (X : Cx) : OpR X (compareOp .Lt) (rOrd (fun i j => decide (i < j)) (fun i j => decide (i < j)) X.K) := OpR.or op_lt op_lt_str
theorem o_le (X : Cx) : OpR X (compareOp .LtE) (rOrd (fun i j => decide (i ≤ j)) (fun i j => !decide (j < i)) X.K) := OpR.or op_le op_le_str
theorem o_gt (X : Cx) : OpR X (compareOp .Gt) (rOrd (fun i j => decide (j < i)) (fun i j => decide (j < i)) X.K) := OpR.or op_gt op_gt_str
theorem o_ge (X : Cx) : OpR X (compareOp .GtE) (rOrd (fun i j => decide (j ≤ i)) (fun i j => !decide (i < j)) X.K) := OpR.or op_ge op_ge_str
theorem ve_lt (ha : VE Y a ta) (hb : VE Y b tb) : VE Y (.Compare a [.Lt] [b] pos) (t2 ta tb pLt) := ve_cmp (fun i => o_lt _) ref_lt ha hb (nomark _)
theorem ve_le (ha : VE Y a ta) (hb : VE Y b tb) : VE Y (.Compare a [.LtE] [b] pos) (t2 ta tb pLe) := ve_cmp (fun i => o_le _) ref_le ha hb (nomark _)
theorem ve_gt (ha : VE Y a ta) (hb : VE Y b tb) : VE Y (.Compare a [.Gt] [b] pos) (t2 ta tb pGt) := ve_cmp (fun i => o_gt _) ref_gt ha hb (nomark _)
theorem ve_ge (ha : VE Y a ta) (hb : VE Y b tb) : VE Y (.Compare a [.GtE] [b] pos) (t2 ta tb pGe) := ve_cmp (fun i => o_ge _) ref_ge ha hb (nomark _)
theorem vt_lt (ha : VE Y a ta) (hb : VE Y b tb) : VT Y (.Compare a [.Lt] [b] pos) (tB (t2 ta tb pLt)) := vt_cmp (fun i => o_lt _) ref_lt ha hb (nomark _)
theorem vt_le (ha : VE Y a ta) (hb : VE Y b tb) : VT Y (.Compare a [.LtE] [b] pos) (tB (t2 ta tb pLe)) := vt_cmp (fun i => o_le _) ref_le ha hb (nomark _)
theorem vt_gt (ha : VE Y a ta) (hb : VE Y b tb) : VT Y (.Compare a [.Gt] [b] pos) (tB (t2 ta tb pGt)) := vt_cmp (fun i => o_gt _) ref_gt ha hb (nomark _)
theorem vt_ge (ha : VE Y a ta) (hb : VE Y b tb) : VT Y (.Compare a [.GtE] [b] pos) (tB (t2 ta tb pGe)) := vt_cmp (fun i => o_ge _) ref_ge ha hb (nomark _)

/-! ### in: a sign in a text, data in a list; flat data in a tuple -/
def D.flat : D → Bool
  | .non => true
  | .bl _ => true
  | .int _ => true
  | .str _ => true
  | _ => false
def pIn (neg : Bool) (d e : D) (Q : R → Prop) : Prop := match e with
  | .str l => match d with
    | .str [c] => Q (.d (.bl (if neg then !decide (c ∈ l) else decide (c ∈ l))))
    | _ => False
  | .lst ds => d.ok 64 = true ∧ D.okL ds 63 = true ∧ Q (.d (.bl (if neg then !ds.any (fun z => D.eq z d) else ds.any fun z => D.eq z d)))
  | .tup ds => d.flat = true ∧ ds.all D.flat = true ∧ Q (.d (.bl (if neg then !ds.any (fun z => D.eq z d) else ds.any fun z => D.eq z d)))
  | _ => False
theorem any_eqv {d : D} (hd : d.ok 64 = true) : ∀ {ds : List D}, D.okL ds 63 = true → ((D.pyL ds).any fun z => PyData.eqv z d.py) = ds.any fun z => D.eq z d
  | [], _ => rfl
  | e :: ds, h => by
    simp only [D.okL, Bool.and_eq_true] at h
    simp only [D.pyL, List.any_cons]
    rw [D.eqv_eq e d 63 64 h.1 hd, any_eqv hd h.2]
theorem flat_V {d : D} (h : Rep Γ.K Γ.cls κ H v d) (f : d.flat = true) : flatV v = true := by
  cases d with
  | non => cases h; rfl
  | bl b => cases h; rfl
  | int i => cases h; rfl
  | str s => obtain ⟨rfl, _⟩ := h.strE; rfl
  | _ => cases f
theorem flat_eqV {d e : D} {w u : V} (h : Rep Γ.K Γ.cls κ H w d) (g : Rep Γ.K Γ.cls κ H u e) (f : d.flat = true) (f2 : e.flat = true) : eqV w u = D.eq d e := by
  cases d with
  | non =>
    cases h
    cases e with
    | non => cases g; rfl
    | bl b => cases g; rfl
    | int i => cases g; rfl
    | str s => obtain ⟨rfl, _⟩ := g.strE; rfl
    | _ => cases f2
  | bl b =>
    cases h
    cases e with
    | non => cases g; rfl
    | bl b => cases g; rfl
    | int i => cases g; rfl
    | str s => obtain ⟨rfl, _⟩ := g.strE; rfl
    | _ => cases f2
  | int i =>
    cases h
    cases e with
    | non => cases g; rfl
    | bl b => cases g; rfl
    | int i => cases g; rfl
    | str s => obtain ⟨rfl, _⟩ := g.strE; rfl
    | _ => cases f2
  | str s =>
    obtain ⟨rfl, _⟩ := h.strE
    cases e with
    | non => cases g; rfl
    | bl b => cases g; rfl
    | int i => cases g; rfl
    | str s => obtain ⟨rfl, _⟩ := g.strE; exact str_beq _ _
    | _ => cases f2
  | _ => cases f
theorem flat_all : ∀ {ds : List D} {vs : List V}, RepL Γ.K Γ.cls κ H vs ds → ds.all D.flat = true → vs.all flatV = true
  | [], _, h, _ => by cases h; rfl
  | d :: ds, _, h, f => by
    cases h with
    | cons h1 h2 =>
      rw [List.all_cons, Bool.and_eq_true] at f
      rw [List.all_cons, flat_V h1 f.1, flat_all h2 f.2]
      rfl
theorem flat_in {d : D} (h : Rep Γ.K Γ.cls κ H v d) (f : d.flat = true) : ∀ {ds : List D} {vs : List V}, RepL Γ.K Γ.cls κ H vs ds → ds.all D.flat = true → inV v vs = ds.any fun z => D.eq z d
  | [], _, g, _ => by cases g; rfl
  | e :: ds, _, g, fs => by
    cases g with
    | cons h1 h2 =>
      rw [List.all_cons, Bool.and_eq_true] at fs
      have ih := flat_in h f h2 fs.2
      unfold inV at ih ⊢
      rw [List.any_cons, List.any_cons, flat_eqV h1 h fs.1 f, ih]
def rSign (neg : Bool) : R2 := fun x y H Q => ∃ (c : Nat) (z : Str), x = .str ⟨#[c]⟩ ∧ y = .str z ∧ Q (.bl (if neg then !decide (c ∈ z.cps.toList) else decide (c ∈ z.cps.toList))) H
def rInDn (K : PySem.W.Frag) (neg : Bool) : R2 := fun x y H Q => ∃ d ds, Dp K H x d ∧ Dp K H y (.list ds) ∧ SeqAt.shaped d = true ∧ SeqAt.shaped (.list ds) = true ∧ Q (.bl (if neg then !ds.any (fun z => PyData.eqv z d) else ds.any fun z => PyData.eqv z d)) H
def rInAll (neg : Bool) (K : PySem.W.Frag) : R2 := fun x y H Q => rSign neg x y H Q ∨ rInDn K neg x y H Q ∨ rIn K neg x y H Q
theorem o_in {X : Cx} (hu : X.A.units + 65 < cLine) : OpR X (compareOp .In) (rInAll false X.K) := OpR.or op_in_sign (OpR.or (op_inD hu) op_in_seq)
theorem o_notIn {X : Cx} (hu : X.A.units + 65 < cLine) : OpR X (compareOp .NotIn) (rInAll true X.K) := OpR.or op_notIn_sign (OpR.or (op_notInD hu) op_notIn_seq)
theorem ref_in {neg : Bool} : OpRef (rInAll neg) (pIn neg) := by
  intro Γ σ κ H env v u d e Q Q' I hd he q k
  cases e with
  | str l =>
    cases d with
    | str s =>
      match s, hd, q with
      | [c], hd, q =>
        obtain ⟨rfl, _⟩ := Rep.strE hd
        obtain ⟨rfl, _⟩ := Rep.strE he
        exact .inl ⟨c, _, rfl, rfl, k _ κ H (.d (.bl _)) (.refl ..) I (.bl _) q⟩
    | _ => exact False.elim q
  | lst ds =>
    obtain ⟨q1, q2, q3⟩ := q
    obtain ⟨a1, a2⟩ := hd.dp q1
    obtain ⟨b1, b2⟩ := he.dp (d := .lst ds) (by simpa [D.ok] using q2)
    refine .inr (.inl ⟨_, _, a1, b1, a2, b2, ?_⟩)
    rw [any_eqv q1 q2]
    exact k _ κ H (.d (.bl _)) (.refl ..) I (.bl _) q3
  | tup ds =>
    obtain ⟨q1, q2, q3⟩ := q
    obtain ⟨a, vs, rfl, h1, h2, h3⟩ := Rep.sqT he
    have hd' : Rep Γ.K Γ.cls κ H v d := by
      cases d with
      | lst _ => cases q1
      | _ => exact hd
    refine .inr (.inr ⟨a, vs, rfl, .inr h1, flat_V hd' q1, flat_all h3 q2, ?_⟩)
    rw [flat_in hd' q1 h3 q2]
    exact k _ κ H (.d (.bl _)) (.refl ..) I (.bl _) q3
  | _ => exact False.elim q
theorem ve_in (hu : Hu Y) (ha : VE Y a ta) (hb : VE Y b tb) (hm : behindInMarks .In b = false := by rfl) : VE Y (.Compare a [.In] [b] pos) (t2 ta tb (pIn false)) := ve_cmp (fun i => o_in (hu i)) ref_in ha hb hm
theorem ve_notIn (hu : Hu Y) (ha : VE Y a ta) (hb : VE Y b tb) (hm : behindInMarks .NotIn b = false := by rfl) : VE Y (.Compare a [.NotIn] [b] pos) (t2 ta tb (pIn true)) := ve_cmp (fun i => o_notIn (hu i)) ref_in ha hb hm
theorem vt_in (hu : Hu Y) (ha : VE Y a ta) (hb : VE Y b tb) (hm : behindInMarks .In b = false := by rfl) : VT Y (.Compare a [.In] [b] pos) (tB (t2 ta tb (pIn false))) := vt_cmp (fun i => o_in (hu i)) ref_in ha hb hm
theorem vt_notIn (hu : Hu Y) (ha : VE Y a ta) (hb : VE Y b tb) (hm : behindInMarks .NotIn b = false := by rfl) : VT Y (.Compare a [.NotIn] [b] pos) (tB (t2 ta tb (pIn true))) := vt_cmp (fun i => o_notIn (hu i)) ref_in ha hb hm

/-! ### is None -/
def D.isNon : D → Bool
  | .non => true
  | _ => false
def pIsN (neg : Bool) (d e : D) (Q : R → Prop) : Prop := match e with
  | .non => Q (.d (.bl (if neg then !d.isNon else d.isNon)))
  | .bl b => match d with
    | .bl a => Q (.d (.bl (if neg then !decide (a = b) else decide (a = b))))
    | _ => False
  | _ => False
def rIsB (neg : Bool) : R2 := fun x y H Q => ∃ a b, x = .bl a ∧ y = .bl b ∧ Q (.bl (if neg then !decide (a = b) else decide (a = b))) H
theorem op_isB {X : Cx} : OpR X (compareOp .Is) (rIsB false) := by
  intro pins s σ H x y v u Q I rx ry h
  obtain ⟨a, b, rfl, rfl, q⟩ := h
  cases rx
  cases ry
  show wpAny _ _ (do return Value.bool (← isSame (Value.bool a) (Value.bool b))) _ _ s
  cases a <;> cases b <;> exact wpAny_bind (wpAny_of_eq rfl (wpAny_pure ⟨.bl _, H, I, rfl, q⟩))
theorem op_isnotB {X : Cx} : OpR X (compareOp .IsNot) (rIsB true) := by
  intro pins s σ H x y v u Q I rx ry h
  obtain ⟨a, b, rfl, rfl, q⟩ := h
  cases rx
  cases ry
  show wpAny _ _ (do return Value.bool (!(← isSame (Value.bool a) (Value.bool b)))) _ _ s
  cases a <;> cases b <;> exact wpAny_bind (wpAny_of_eq rfl (wpAny_pure ⟨.bl _, H, I, rfl, q⟩))
def rIsAll (neg : Bool) : PySem.W.Frag → R2 := fun _ x y H Q => (y = .non ∧ Q (.bl (if neg then !decide (x = .non) else decide (x = .non))) H) ∨ rIsB neg x y H Q
theorem ref_isA {neg : Bool} : OpRef (rIsAll neg) (pIsN neg) := by
  intro Γ σ κ H env v u d e Q Q' I hd he q k
  cases e with
  | non =>
    cases he
    refine .inl ⟨rfl, ?_⟩
    have e1 : decide (v = .non) = d.isNon := by
      cases d with
      | non => cases hd; rfl
      | lst ds => obtain ⟨a, vs, rfl, _⟩ := hd; rfl
      | str s => obtain ⟨rfl, _⟩ := Rep.strE hd; rfl
      | _ => cases hd <;> rfl
    rw [e1]
    exact k _ κ H (.d (.bl _)) (.refl ..) I (.bl _) q
  | bl b =>
    cases d with
    | bl a => cases hd; cases he; exact .inr ⟨a, b, rfl, rfl, k _ κ H (.d (.bl _)) (.refl ..) I (.bl _) q⟩
    | _ => exact False.elim q
  | _ => exact False.elim q
theorem o_is {X : Cx} : OpR X (compareOp .Is) (rIsAll false X.K) := OpR.or op_isN op_isB
theorem o_isnot {X : Cx} : OpR X (compareOp .IsNot) (rIsAll true X.K) := OpR.or op_notN op_isnotB
theorem ve_is (ha : VE Y a ta) (hb : VE Y b tb) : VE Y (.Compare a [.Is] [b] pos) (t2 ta tb (pIsN false)) := ve_cmp (fun i => o_is) ref_isA ha hb (nomark _)
theorem ve_isnot (ha : VE Y a ta) (hb : VE Y b tb) : VE Y (.Compare a [.IsNot] [b] pos) (t2 ta tb (pIsN true)) := ve_cmp (fun i => o_isnot) ref_isA ha hb (nomark _)
theorem vt_is (ha : VE Y a ta) (hb : VE Y b tb) : VT Y (.Compare a [.Is] [b] pos) (tB (t2 ta tb (pIsN false))) := vt_cmp (fun i => o_is) ref_isA ha hb (nomark _)
theorem vt_isnot (ha : VE Y a ta) (hb : VE Y b tb) : VT Y (.Compare a [.IsNot] [b] pos) (tB (t2 ta tb (pIsN true))) := vt_cmp (fun i => o_isnot) ref_isA ha hb (nomark _)

/-! ### and, or, not, if else -/
variable {tA tC : PTT} {rest : List Expr}
def tAnd (t u : PTT) : PTT := fun x e Q => t x e fun c e1 => if c = true then u x e1 Q else Q false e1
def tOr (t u : PTT) : PTT := fun x e Q => t x e fun c e1 => if c = true then Q true e1 else u x e1 Q
def tNot (t : PTT) : PTT := fun x e Q => t x e fun c e1 => Q (!c) e1
theorem VW.vt {e : Expr} {t : PTT} (h : VW Y e t) : VT Y e t := by
  obtain ⟨ra, pa, fa⟩ := h.ex
  exact ⟨⟨ra, fun i => (pa i).pt, fa⟩⟩
theorem vw_and1 (ha : VT Y a tA) : VW Y (.BoolOp .And [a] pos) tA := by
  obtain ⟨ra, pa, fa⟩ := ha.ex
  exact ⟨⟨ra, fun i => pw_and1 (pa i), fa⟩⟩
theorem vw_or1 (ha : VT Y a tA) : VW Y (.BoolOp .Or [a] pos) tA := by
  obtain ⟨ra, pa, fa⟩ := ha.ex
  exact ⟨⟨ra, fun i => pw_or1 (pa i), fa⟩⟩
theorem vw_and (ha : VT Y a tA) (hb : VW Y (.BoolOp .And (b :: rest) pos) tC) : VW Y (.BoolOp .And (a :: b :: rest) pos) (tAnd tA tC) := by
  obtain ⟨ra, pa, fa⟩ := ha.ex
  obtain ⟨rb, pb, fb⟩ := hb.ex
  refine ⟨⟨fun E => L2.tAnd (ra E) (rb E), fun i => pw_and (pa i) (pb i), fun Γ σ κ H env Q Q' hK I q k => ?_⟩⟩
  refine fa Γ σ κ H env _ _ hK I q fun c κ1 H1 e1 x1 I1 q1 => ?_
  cases c with
  | true => exact fb Γ σ κ1 H1 e1 Q Q' hK I1 q1 fun b κ2 H2 e2 x2 => k b κ2 H2 e2 (x1.trans x2)
  | false => exact k false κ1 H1 e1 x1 I1 q1
theorem vw_or (ha : VT Y a tA) (hb : VW Y (.BoolOp .Or (b :: rest) pos) tC) : VW Y (.BoolOp .Or (a :: b :: rest) pos) (tOr tA tC) := by
  obtain ⟨ra, pa, fa⟩ := ha.ex
  obtain ⟨rb, pb, fb⟩ := hb.ex
  refine ⟨⟨fun E => L2.tOr (ra E) (rb E), fun i => pw_or (pa i) (pb i), fun Γ σ κ H env Q Q' hK I q k => ?_⟩⟩
  refine fa Γ σ κ H env _ _ hK I q fun c κ1 H1 e1 x1 I1 q1 => ?_
  cases c with
  | false => exact fb Γ σ κ1 H1 e1 Q Q' hK I1 q1 fun b κ2 H2 e2 x2 => k b κ2 H2 e2 (x1.trans x2)
  | true => exact k true κ1 H1 e1 x1 I1 q1
theorem vt_not (ha : VT Y a tA) : VT Y (.UnaryOp .Not a pos) (tNot tA) := by
  obtain ⟨ra, pa, fa⟩ := ha.ex
  exact ⟨⟨fun E => L2.tNot (ra E), fun i => pt_not (pa i), fun Γ σ κ H env Q Q' hK I q k => fa Γ σ κ H env _ _ hK I q fun c κ1 H1 e1 x1 I1 q1 => k _ κ1 H1 e1 x1 I1 q1⟩⟩
/-- as values, all but the last bools -/
def tAndV (ta tb : PTE) : PTE := fun x e Q => ta x e fun r e1 => match rv r e1 with
  | some (.bl c) => if c = true then tb x e1 Q else Q (.d (.bl false)) e1
  | _ => False
def tOrV (ta tb : PTE) : PTE := fun x e Q => ta x e fun r e1 => match rv r e1 with
  | some (.bl c) => if c = true then Q (.d (.bl true)) e1 else tb x e1 Q
  | _ => False
def tNotV (ta : PTE) : PTE := fun x e Q => ta x e fun r e1 => match rv r e1 with
  | some (.bl c) => Q (.d (.bl (!c))) e1
  | _ => False
theorem bl_of {r : R} {P : D → Prop} (I : Rl Γ κ env σ H) (h : RelR Γ κ H env σ v r) {F : Bool → Prop} (q : match rv r env with | some (.bl c) => F c | _ => False) : ∃ c, v = .bl c ∧ F c := by
  cases e1' : rv r env with
  | none => rw [e1'] at q; exact False.elim q
  | some d =>
    rw [e1'] at q
    have rt := rv_ok I h e1'
    cases d with
    | bl b => cases rt; exact ⟨b, rfl, q⟩
    | _ => exact False.elim q
theorem ve_one {op} (ha : VE Y a ta) : VE Y (.BoolOp op [a] pos) ta := by
  obtain ⟨ra, pa, fa⟩ := ha.ex
  exact ⟨⟨ra, fun i => pe_one (pa i), fa⟩⟩
theorem ve_and (ha : VE Y a ta) (hb : VE Y (.BoolOp .And (b :: rest) pos) tb) : VE Y (.BoolOp .And (a :: b :: rest) pos) (tAndV ta tb) := by
  obtain ⟨ra, pa, fa⟩ := ha.ex
  obtain ⟨rb, pb, fb⟩ := hb.ex
  refine ⟨⟨fun E => L2.tAndV (ra E) (rb E), fun i => pe_and (pa i) (pb i), fun Γ σ κ H env Q Q' hK I q k => ?_⟩⟩
  refine fa Γ σ κ H env _ _ hK I q fun v κ1 H1 r1 e1 x1 I1 h1 q1 => ?_
  obtain ⟨c, rfl, q1⟩ := bl_of (P := fun _ => True) I1 h1 q1
  refine ⟨c, rfl, ?_⟩
  cases c with
  | true => exact fb Γ σ κ1 H1 e1 Q Q' hK I1 q1 fun v κ2 H2 r2 e2 x2 => k v κ2 H2 r2 e2 (x1.trans x2)
  | false => exact k _ κ1 H1 (.d (.bl false)) e1 x1 I1 (.bl _) q1
theorem ve_or (ha : VE Y a ta) (hb : VE Y (.BoolOp .Or (b :: rest) pos) tb) : VE Y (.BoolOp .Or (a :: b :: rest) pos) (tOrV ta tb) := by
  obtain ⟨ra, pa, fa⟩ := ha.ex
  obtain ⟨rb, pb, fb⟩ := hb.ex
  refine ⟨⟨fun E => L2.tOrV (ra E) (rb E), fun i => pe_or (pa i) (pb i), fun Γ σ κ H env Q Q' hK I q k => ?_⟩⟩
  refine fa Γ σ κ H env _ _ hK I q fun v κ1 H1 r1 e1 x1 I1 h1 q1 => ?_
  obtain ⟨c, rfl, q1⟩ := bl_of (P := fun _ => True) I1 h1 q1
  refine ⟨c, rfl, ?_⟩
  cases c with
  | false => exact fb Γ σ κ1 H1 e1 Q Q' hK I1 q1 fun v κ2 H2 r2 e2 x2 => k v κ2 H2 r2 e2 (x1.trans x2)
  | true => exact k _ κ1 H1 (.d (.bl true)) e1 x1 I1 (.bl _) q1
theorem ve_not (ha : VE Y a ta) : VE Y (.UnaryOp .Not a pos) (tNotV ta) := by
  obtain ⟨ra, pa, fa⟩ := ha.ex
  refine ⟨⟨fun E => L2.tNotV (ra E), fun i => pe_not (pa i), fun Γ σ κ H env Q Q' hK I q k => ?_⟩⟩
  refine fa Γ σ κ H env _ _ hK I q fun v κ1 H1 r1 e1 x1 I1 h1 q1 => ?_
  obtain ⟨c, rfl, q1⟩ := bl_of (P := fun _ => True) I1 h1 q1
  exact ⟨c, rfl, k _ κ1 H1 (.d (.bl _)) e1 x1 I1 (.bl _) q1⟩
def tIf (t : PTT) (ta tb : PTE) : PTE := fun x e Q => t x e fun c e1 => if c = true then ta x e1 Q else tb x e1 Q
theorem ve_ifExp {c : Expr} (hc : VT Y c tA) (ha : VE Y a ta) (hb : VE Y b tb) : VE Y (.IfExp c a b pos) (tIf tA ta tb) := by
  obtain ⟨rc, pc, fc⟩ := hc.ex
  obtain ⟨ra, pa, fa⟩ := ha.ex
  obtain ⟨rb, pb, fb⟩ := hb.ex
  refine ⟨⟨fun E => L2.tIf (rc E) (ra E) (rb E), fun i => pe_ifExp (pc i) (pa i) (pb i), fun Γ σ κ H env Q Q' hK I q k => ?_⟩⟩
  refine fc Γ σ κ H env _ _ hK I q fun c κ1 H1 e1 x1 I1 q1 => ?_
  cases c with
  | true => exact fa Γ σ κ1 H1 e1 Q Q' hK I1 q1 fun v κ2 H2 r2 e2 x2 => k v κ2 H2 r2 e2 (x1.trans x2)
  | false => exact fb Γ σ κ1 H1 e1 Q Q' hK I1 q1 fun v κ2 H2 r2 e2 x2 => k v κ2 H2 r2 e2 (x1.trans x2)
end
end Pu
set_option maxRecDepth 100000
set_option maxHeartbeats 4000000
namespace Pu
open PySem L2
section
variable {Γ : Gm} {κ κ' : Ka} {H H' : Hp} {env env' : En} {σ : Sl} {v : V} {st : Sto} {Y : Fam} {a b e : Expr} {es : List Expr} {ta tb te : PTE} {pos : Pos}

/-! ### arguments as data, displays -/
def tNil : PTA := fun _ e Q => Q [] e
def tCons (ta : PTE) (tr : PTA) : PTA := fun x e Q => ta x e fun r e1 => fz r e1 fun d e2 => tr x e2 fun ds e3 => Q (d :: ds) e3
theorem va_nil : VA Y [] tNil := ⟨⟨fun _ => L2.tNil, fun _ => pa_nil, fun Γ σ κ H env Q Q' hK I q k => k [] κ H [] env (.refl ..) I .nil q⟩⟩
theorem va_cons {tr : PTA} (ha : VE Y e ta) (hr : VA Y es tr) (hs : ∀ X : Cx, starEach (e :: es) X.env = (false, eval e X.env) :: starEach es X.env := by intro _; rfl) : VA Y (e :: es) (tCons ta tr) := by
  obtain ⟨ra, pa, fa⟩ := ha.ex
  obtain ⟨rb, pb, fb⟩ := hr.ex
  refine ⟨⟨fun E => L2.tCons (ra E) (rb E), fun i => pa_cons (pa i) (pb i) (hs _), fun Γ σ κ H env Q Q' hK I q k => ?_⟩⟩
  refine fa Γ σ κ H env _ _ hK I q fun v κ1 H1 r1 e1 x1 I1 h1 q1 => ?_
  refine fz_ok I1 h1 q1 fun κ2 d e2 x2 I2 h2 q2 => ?_
  refine fb Γ σ κ2 H1 e2 _ _ hK I2 q2 fun vs κ3 H3 ds e3 x3 I3 h3 q3 => ?_
  exact k (v :: vs) κ3 H3 (d :: ds) e3 ((x1.trans x2).trans x3) I3 (.cons (h2.mono x3) h3) q3
def tTup (t : PTA) : PTE := fun x e Q => t x e fun ds e1 => ds.length ≤ sizeLine ∧ Q (.d (.tup ds)) e1
def tLst (t : PTA) : PTE := fun x e Q => t x e fun ds e1 => ds.length ≤ sizeLine ∧ Q (.own ds) e1
theorem ve_tup {x1} {t : PTA} (h : VA Y es t) : VE Y (.Tuple es x1 pos) (tTup t) := by
  obtain ⟨ra, pa, fa⟩ := h.ex
  refine ⟨⟨fun E => L2.tTup (ra E), fun i => pe_tup (pa i), fun Γ σ κ H env Q Q' hK I q k => ?_⟩⟩
  refine fa Γ σ κ H env _ _ hK I q fun vs κ1 H1 ds e1 x1 I1 h1 q1 => ⟨by rw [h1.length]; exact q1.1, fun p hp => ?_⟩
  obtain ⟨x2, I2, r2⟩ := new_tup I1 hp (by rw [h1.length]; exact q1.1) h1
  exact k _ _ _ (.d (.tup ds)) e1 (x1.trans x2) I2 r2 q1.2
theorem ve_lst {t : PTA} (h : VA Y es t) : VE Y (.List es pos) (tLst t) := by
  obtain ⟨ra, pa, fa⟩ := h.ex
  refine ⟨⟨fun E => L2.tLst (ra E), fun i => pe_lst (pa i), fun Γ σ κ H env Q Q' hK I q k => ?_⟩⟩
  refine fa Γ σ κ H env _ _ hK I q fun vs κ1 H1 ds e1 x1 I1 h1 q1 => ⟨by rw [h1.length]; exact q1.1, fun p hp => ?_⟩
  exact k _ κ1 _ (.own ds) e1 (x1.trans (Ext.upd_new I1.gh hp)) (I1.upd_new hp) (new_lst I1 hp (by rw [h1.length]; exact q1.1) h1) q1.2

/-! ### arguments that are read -/
abbrev PTR := PX → En → (List R → En → Prop) → Prop
inductive HeldL (Γ : Gm) (κ : Ka) (H : Hp) (σ : Sl) : List V → List R → Prop
  | nil : HeldL Γ κ H σ [] []
  | cons {v : V} {vs : List V} {r : R} {rs : List R} : HeldR Γ κ H σ v r → HeldL Γ κ H σ vs rs → HeldL Γ κ H σ (v :: vs) (r :: rs)
inductive RepTL (Γ : Gm) (κ : Ka) (H : Hp) : List V → List D → Prop
  | nil : RepTL Γ κ H [] []
  | cons {v : V} {vs : List V} {d : D} {ds : List D} : RepT Γ κ H v d → RepTL Γ κ H vs ds → RepTL Γ κ H (v :: vs) (d :: ds)
theorem HeldL.ext : ∀ {rs : List R} {vs : List V}, Ext κ H κ' H' → HeldL Γ κ H σ vs rs → HeldL Γ κ' H' σ vs rs
  | [], _, _, h => by cases h; exact .nil
  | _ :: _, _, e, h => by cases h with | cons h1 h2 => exact .cons (h1.ext e) (HeldL.ext e h2)
structure VR (Y : Fam) (es : List Expr) (t : PTR) : Prop where
  ex : ∃ rd : XK → TA, (∀ i, PA (Y.X i) es (rd (Y.E i))) ∧ ∀ (Γ : Gm) (σ : Sl) (κ : Ka) (H : Hp) (env : En) (Q : List R → En → Prop) (Q' : List V → Hp → Prop), GK Y Γ → Rl Γ κ env σ H → t Γ.x env Q →
    (∀ vs κ' H' rs env', Ext κ H κ' H' → Rl Γ κ' env' σ H' → HeldL Γ κ' H' σ vs rs → Q rs env' → Q' vs H') → rd Γ.E σ H Q'
def rNil : PTR := fun _ e Q => Q [] e
def rCons (ta : PTE) (tr : PTR) : PTR := fun x e Q => ta x e fun r e1 => hold r e1 fun r e2 => tr x e2 fun rs e3 => Q (r :: rs) e3
theorem vr_nil : VR Y [] rNil := ⟨⟨fun _ => L2.tNil, fun _ => pa_nil, fun Γ σ κ H env Q Q' hK I q k => k [] κ H [] env (.refl ..) I .nil q⟩⟩
theorem vr_cons {tr : PTR} (ha : VE Y e ta) (hr : VR Y es tr) (hs : ∀ X : Cx, starEach (e :: es) X.env = (false, eval e X.env) :: starEach es X.env := by intro _; rfl) : VR Y (e :: es) (rCons ta tr) := by
  obtain ⟨ra, pa, fa⟩ := ha.ex
  obtain ⟨rb, pb, fb⟩ := hr.ex
  refine ⟨⟨fun E => L2.tCons (ra E) (rb E), fun i => pa_cons (pa i) (pb i) (hs _), fun Γ σ κ H env Q Q' hK I q k => ?_⟩⟩
  refine fa Γ σ κ H env _ _ hK I q fun v κ1 H1 r1 e1 x1 I1 h1 q1 => ?_
  refine hold_ok I1 h1 q1 fun κ2 r2 x2 I2 h2 q2 => ?_
  refine fb Γ σ κ2 H1 e1 _ _ hK I2 q2 fun vs κ3 H3 rs e3 x3 I3 h3 q3 => ?_
  exact k (v :: vs) κ3 H3 (r2 :: rs) e3 ((x1.trans x2).trans x3) I3 (.cons (h2.ext x3) h3) q3
def rvL : List R → En → Option (List D)
  | [], _ => some []
  | r :: rs, e => match rv r e with
    | none => none
    | some d => match rvL rs e with
      | none => none
      | some ds => some (d :: ds)
theorem rvL_ok (I : Rl Γ κ env σ H) : ∀ {rs : List R} {vs : List V} {ds : List D}, HeldL Γ κ H σ vs rs → rvL rs env = some ds → RepTL Γ κ H vs ds
  | [], _, _, h, e => by cases h; cases e; exact .nil
  | r :: rs, _, _, h, e => by
    cases h with
    | cons h1 h2 =>
      unfold rvL at e
      cases e1 : rv r env with
      | none => rw [e1] at e; cases e
      | some d =>
        rw [e1] at e
        cases e2 : rvL rs env with
        | none => simp only [e2] at e; cases e
        | some ds =>
          simp only [e2] at e
          cases e
          exact .cons (rv_ok I h1.rel e1) (rvL_ok I h2 e2)

/-! ### built-ins by name -/
def CallRef (r : PySem.W.Frag → List V → Hp → VK → Prop) (p : List D → (R → Prop) → Prop) : Prop :=
  ∀ (Γ : Gm) (σ : Sl) (κ : Ka) (H : Hp) (env : En) (vs : List V) (ds : List D) (Q : R → Prop) (Q' : VK), Rl Γ κ env σ H → RepTL Γ κ H vs ds → p ds Q →
    (∀ v' κ' H' r, Ext κ H κ' H' → Rl Γ κ' env σ H' → RelR Γ κ' H' env σ v' r → Q r → Q' v' H') → r Γ.K vs H Q'
def tCallP (p : List D → (R → Prop) → Prop) (t : PTR) : PTE := fun x e Q => t x e fun rs e1 => match rvL rs e1 with
  | some ds => p ds (fun r => Q r e1)
  | none => False
theorem callP {r : PySem.W.Frag → List V → Hp → VK → Prop} {p : List D → (R → Prop) → Prop} {t : PTR} {rd : XK → TA} (hr : CallRef r p)
    (f : ∀ (Γ : Gm) (σ : Sl) (κ : Ka) (H : Hp) (env : En) (Q : List R → En → Prop) (Q' : List V → Hp → Prop), GK Y Γ → Rl Γ κ env σ H → t Γ.x env Q →
    (∀ vs κ' H' rs env', Ext κ H κ' H' → Rl Γ κ' env' σ H' → HeldL Γ κ' H' σ vs rs → Q rs env' → Q' vs H') → rd Γ.E σ H Q')
    {Q : R → En → Prop} {Q' : VK} (hK : GK Y Γ) (I : Rl Γ κ env σ H) (q : tCallP p t Γ.x env Q)
    (k : ∀ v κ' H' r env', Ext κ H κ' H' → Rl Γ κ' env' σ H' → RelR Γ κ' H' env' σ v r → Q r env' → Q' v H') : tCB (r Y.K) (rd Γ.E) σ H Q' := by
  refine f Γ σ κ H env _ _ hK I q fun vs κ1 H1 rs e1 x1 I1 h1 q1 => ?_
  cases e : rvL rs e1 with
  | none => rw [e] at q1; exact False.elim q1
  | some ds =>
    rw [e] at q1
    have := hr Γ σ κ1 H1 e1 vs ds _ Q' I1 (rvL_ok I1 h1 e) q1 fun v' κ' H' r x I' h' q' => k v' κ' H' r e1 (x1.trans x) I' h' q'
    rw [hK.k] at this
    exact this
theorem ve_callB {x : Str} {id : String} {p' : Pos} {r : PySem.W.Frag → List V → Hp → VK → Prop} {p : List D → (R → Prop) → Prop} {t : PTR} (hc : ∀ i, CallR (Y.X i) (.builtin id) (r (Y.X i).K)) (hr : CallRef r p) (hm : ∀ i, (Y.X i).mg x = none) (ha : VR Y (e :: es) t)
    (hg : ∀ i, Gl (Y.X i) x := by intro _; rfl) (hv : bootBuiltins x = some (.builtin id) := by decide +kernel) (hn : x ≠ "__name__" := by decide) (hdb : (x == ("__debug__" : Str)) = false := by decide)
    (he : ∀ X : Cx, starEach (e :: es) X.env = (false, eval e X.env) :: starEach es X.env := by intro _; rfl) (hpl : ∀ X : Cx, (backTo pos (starEach es X.env)).any (·.1) = false := by intro _; rfl) : VE Y (.Call (.Name x p') (e :: es) [] pos) (tCallP p t) := by
  obtain ⟨ra, pa, fa⟩ := ha.ex
  exact ⟨⟨fun E => tCB (r Y.K) (ra E), fun i => pe_callB (by have := hc i; rw [Y.hK i] at this; exact this) (hg i) (hm i) hv (pa i) hn hdb (he _) (hpl _), fun Γ σ κ H env Q Q' hK I q k => callP hr fa hK I q k⟩⟩
theorem ve_callTy {x : Str} {T : String} {p' : Pos} {r : PySem.W.Frag → List V → Hp → VK → Prop} {p : List D → (R → Prop) → Prop} {t : PTR} (hc : ∀ i, CallR (Y.X i) (.type T) (r (Y.X i).K)) (hr : CallRef r p) (hm : ∀ i, (Y.X i).mg x = none) (ha : VR Y (e :: es) t)
    (hg : ∀ i, Gl (Y.X i) x := by intro _; rfl) (hv : bootBuiltins x = some (.type T) := by decide +kernel) (hn : x ≠ "__name__" := by decide) (hdb : (x == ("__debug__" : Str)) = false := by decide)
    (he : ∀ X : Cx, starEach (e :: es) X.env = (false, eval e X.env) :: starEach es X.env := by intro _; rfl) (hpl : ∀ X : Cx, (backTo pos (starEach es X.env)).any (·.1) = false := by intro _; rfl) : VE Y (.Call (.Name x p') (e :: es) [] pos) (tCallP p t) := by
  obtain ⟨ra, pa, fa⟩ := ha.ex
  exact ⟨⟨fun E => tCB (r Y.K) (ra E), fun i => pe_callTy (by have := hc i; rw [Y.hK i] at this; exact this) (hg i) (hm i) hv (pa i) hn hdb (he _) (hpl _), fun Γ σ κ H env Q Q' hK I q k => callP hr fa hK I q k⟩⟩
/-- len -/
def pLen : List D → (R → Prop) → Prop
  | [.str s], Q => Q (.d (.int s.length))
  | [.lst ds], Q => Q (.d (.int ds.length))
  | [.tup ds], Q => Q (.d (.int ds.length))
  | [.scr n], Q => Q (.d (.int n))
  | _, _ => False
def rLen (K : PySem.W.Frag) : List V → Hp → VK → Prop := fun xs H Q => ∃ x n, xs = [x] ∧ LenV K x H n ∧ Q (.int n) H
theorem lenL {K : PySem.W.Frag} {a : Addr} {vs : List V} (h : SqL K H a vs) : LenV K (.ref a) H vs.length := by
  unfold LenV
  first | exact .inl ⟨vs, h, rfl⟩ | exact ⟨vs, .inl h, rfl⟩
theorem ref_len : CallRef rLen pLen := by
  intro Γ σ κ H env vs ds Q Q' I h q k
  match ds, vs, h, q with
  | [.str s], _, .cons h .nil, q =>
    obtain ⟨rfl, h1⟩ := Rep.strE h
    refine ⟨_, s.length, rfl, ?_, k _ κ H (.d (.int s.length)) (.refl ..) I (.int _) q⟩
    show _ ≤ sizeLine ∧ _
    rw [str_len]
    exact ⟨h1.1, rfl⟩
  | [.lst ds], _, .cons h .nil, q =>
    obtain ⟨a, ws, rfl, h1, h2, h3⟩ := h
    refine ⟨_, ws.length, rfl, lenL (SqL.of h1), ?_⟩
    rw [h3.length]
    exact k _ κ H (.d (.int ds.length)) (.refl ..) I (.int _) q
  | [.tup ds], _, .cons h .nil, q =>
    obtain ⟨a, ws, rfl, h1, h2, h3⟩ := Rep.sqT h
    refine ⟨_, ws.length, rfl, .inr ⟨ws, h1, rfl⟩, ?_⟩
    rw [h3.length]
    exact k _ κ H (.d (.int ds.length)) (.refl ..) I (.int _) q
  | [.scr n], _, .cons h .nil, q =>
    cases h with
    | @scr a ns _ h1 hn h2 =>
      subst hn
      refine ⟨_, ns.length, rfl, ?_, k _ κ H (.d (.int (ns.length : Nat))) (.refl ..) I (.int _) q⟩
      have := lenL (H := H) (K := Γ.K) (a := a) (vs := ns.map V.int) (by
        rcases h1 with ⟨_, h1⟩ | h1
        · exact .inl h1
        · exact .inr h1)
      rw [List.length_map] at this
      exact this
theorem ve_len {p' : Pos} {t : PTR} (hm : ∀ i, (Y.X i).mg "len" = none) (ha : VR Y [e] t) (hg : ∀ i, Gl (Y.X i) "len" := by intro _; rfl) (he : ∀ X : Cx, starEach [e] X.env = (false, eval e X.env) :: starEach [] X.env := by intro _; rfl) : VE Y (.Call (.Name "len" p') [e] [] pos) (tCallP pLen t) :=
  ve_callB (r := rLen) (fun _ => call_len) ref_len hm ha hg (he := he)

/-! ### items -/
def pIx (d e : D) (Q : R → Prop) : Prop := match d, e with
  | .lst ds, .int i => match atI ds i with | some y => Q (.d y) | none => False
  | .tup ds, .int i => match atI ds i with | some y => Q (.d y) | none => False
  | .str s, .int i => match atI s i with | some c => Q (.d (.str [c])) | none => False
  | .scr n, .int i => (0 ≤ i ∧ i < n) ∧ ∀ z, Q (.d (.int z))
  | .box, .int i => (i = 0 ∨ i = 1) ∧ ∀ z, Q (.d (.int z))
  | _, _ => False
theorem atI_rep {ds : List D} {vs : List V} {i : Int} {d : D} (h : RepL Γ.K Γ.cls κ H vs ds) (e : atI ds i = some d) : ∃ v, atI vs i = some v ∧ Rep Γ.K Γ.cls κ H v d := by
  unfold atI at e ⊢
  rw [h.length]
  cases q : ixN ds.length i with
  | none => rw [q] at e; cases e
  | some j =>
    rw [q] at e
    obtain ⟨v, e1, r⟩ := h.get (i := j) e
    exact ⟨v, e1, r⟩
theorem SOk.one {s : List Nat} {c : Nat} (h : SOk s) (hc : c ∈ s) : SOk [c] := ⟨by show 1 ≤ sizeLine; decide, fun d hd => by
  have : d = c := by simpa using hd
  rw [this]; exact h.2 c hc⟩
theorem atI_mem {α : Type} {xs : List α} {i : Int} {x : α} (e : atI xs i = some x) : x ∈ xs := by
  unfold atI at e
  cases q : ixN xs.length i with
  | none => rw [q] at e; cases e
  | some j => rw [q] at e; exact List.mem_of_getElem? e
theorem ref_ix : OpRef rIx pIx := by
  intro Γ σ κ H env v u d e Q Q' I hd he q k
  cases e with
  | int i =>
    cases he
    cases d with
    | lst ds =>
      obtain ⟨a, vs, rfl, h1, h2, h3⟩ := hd
      unfold pIx at q
      simp only at q
      cases qe : atI ds i with
      | none => rw [qe] at q; exact False.elim q
      | some y =>
        rw [qe] at q
        obtain ⟨w, e1, r1⟩ := atI_rep h3 qe
        exact .inl ⟨a, vs, i, w, rfl, rfl, SqL.of h1, e1, k w κ H (.d y) (.refl ..) I r1 q⟩
    | tup ds =>
      obtain ⟨a, vs, rfl, h1, h2, h3⟩ := Rep.sqT hd
      unfold pIx at q
      simp only at q
      cases qe : atI ds i with
      | none => rw [qe] at q; exact False.elim q
      | some y =>
        rw [qe] at q
        obtain ⟨w, e1, r1⟩ := atI_rep h3 qe
        exact .inr (.inl ⟨a, vs, i, w, rfl, rfl, h1, e1, k w κ H (.d y) (.refl ..) I r1 q⟩)
    | str s =>
      obtain ⟨rfl, hs⟩ := Rep.strE hd
      unfold pIx at q
      simp only at q
      cases qe : atI s i with
      | none => rw [qe] at q; exact False.elim q
      | some c =>
        rw [qe] at q
        exact .inr (.inr ⟨_, i, c, rfl, rfl, by rw [str_len]; exact hs.1, qe, k _ κ H (.d (.str [c])) (.refl ..) I (.str _ (hs.one (atI_mem qe))) q⟩)
    | scr n =>
      cases hd with
      | @scr a ns _ h1 hn h2 =>
        subst hn
        obtain ⟨⟨i0, i1⟩, q⟩ := q
        obtain ⟨j, rfl⟩ : ∃ j : Nat, i = (j : Int) := ⟨i.toNat, by omega⟩
        have hj : j < ns.length := by omega
        refine .inl ⟨a, ns.map V.int, (j : Int), .int ns[j], rfl, rfl, ?_, atI_nat (by rw [List.getElem?_map, List.getElem?_eq_getElem hj]; rfl), k _ κ H (.d (.int ns[j])) (.refl ..) I (.int _) (q _)⟩
        rcases h1 with ⟨_, h1⟩ | h1
        · exact .inl h1
        · exact .inr h1
    | box =>
      cases hd with
      | @box a hk =>
        obtain ⟨x, y, hx⟩ := I.gh.box a hk
        obtain ⟨hi, q⟩ := q
        rcases hi with rfl | rfl
        · exact .inl ⟨a, _, 0, .int x, rfl, rfl, SqL.of hx, rfl, k _ κ H (.d (.int x)) (.refl ..) I (.int _) (q _)⟩
        · exact .inl ⟨a, _, 1, .int y, rfl, rfl, SqL.of hx, rfl, k _ κ H (.d (.int y)) (.refl ..) I (.int _) (q _)⟩
    | _ => exact False.elim q
  | _ => cases d <;> exact False.elim q
theorem ve_ix (ha : VE Y a ta) (hb : VE Y b tb) (hs : PlainIx b := by exact fun _ _ => rfl) : VE Y (.Subscript a b pos) (t2 ta tb pIx) := by
  obtain ⟨ra, pa, fa⟩ := ha.ex
  obtain ⟨rb, pb, fb⟩ := hb.ex
  refine ⟨⟨fun E => tOp (rIx Y.K) (ra E) (rb E), fun i => pe_ix (by have := ix_seq (X := Y.X i); rw [Y.hK i] at this; exact this) (pa i) (pb i) hs, fun Γ σ κ H env Q Q' hK I q k => ?_⟩⟩
  exact two_ref (r := rIx) ref_ix fa fb hK I q k

/-! ### slices -/
abbrev PTO := PX → En → (Option Int → En → Prop) → Prop
structure VO (Y : Fam) (e : Option Expr) (t : PTO) : Prop where
  ex : ∃ rd : XK → L2.TO, (∀ i, PO (Y.X i) e (rd (Y.E i))) ∧ ∀ (Γ : Gm) (σ : Sl) (κ : Ka) (H : Hp) (env : En) (Q : Option Int → En → Prop) (Q' : Option Int → Hp → Prop), GK Y Γ → Rl Γ κ env σ H → t Γ.x env Q →
    (∀ o κ' H' env', Ext κ H κ' H' → Rl Γ κ' env' σ H' → Q o env' → Q' o H') → rd Γ.E σ H Q'
def oNone : PTO := fun _ e Q => Q none e
def oSome (t : PTE) : PTO := fun x e Q => t x e fun r e1 => match rv r e1 with
  | some (.int i) => Q (some i) e1
  | _ => False
theorem vo_none : VO Y none oNone := ⟨⟨fun _ => tNoPart, fun _ => po_none, fun Γ σ κ H env Q Q' hK I q k => k none κ H env (.refl ..) I q⟩⟩
theorem vo_some (h : VE Y e te) : VO Y (some e) (oSome te) := by
  obtain ⟨ra, pa, fa⟩ := h.ex
  refine ⟨⟨fun E => tPart (ra E), fun i => po_some (pa i), fun Γ σ κ H env Q Q' hK I q k => ?_⟩⟩
  refine fa Γ σ κ H env _ _ hK I q fun v κ1 H1 r1 e1 x1 I1 h1 q1 => ?_
  cases e1' : rv r1 e1 with
  | none => rw [e1'] at q1; exact False.elim q1
  | some d =>
    rw [e1'] at q1
    have rt := rv_ok I1 h1 e1'
    cases d with
    | int i => cases rt; exact ⟨i, rfl, k (some i) κ1 H1 e1 x1 I1 q1⟩
    | _ => exact False.elim q1
/-- a piece of a list -/
def cut {α : Type} (xs : List α) (lo hi : Option Int) : List α := (xs.drop (HT.sIx xs.length 0 lo)).take (HT.sIx xs.length xs.length hi - HT.sIx xs.length 0 lo)
def pSl (d : D) (lo hi : Option Int) (Q : R → Prop) : Prop := match d with
  | .lst ds => Q (.own (cut ds lo hi))
  | .tup ds => Q (.d (.tup (cut ds lo hi)))
  | .str s => Q (.d (.str (cut s lo hi)))
  | .scr n => ∀ ns : List Int, ns.length = (cut (List.range n) lo hi).length → Q (.own (ns.map D.int))
  | _ => False
def tSl (te : PTE) (tl th : PTO) : PTE := fun x e Q => te x e fun r e1 => hold r e1 fun r e1 => tl x e1 fun lo e2 => th x e2 fun hi e3 => match rv r e3 with
  | some d => pSl d lo hi (fun r => Q r e3)
  | none => False
theorem cut_length {α : Type} (xs : List α) (lo hi : Option Int) : (cut xs lo hi).length ≤ xs.length := by
  unfold cut
  rw [List.length_take, List.length_drop]
  omega
theorem cut_mem {α : Type} {xs : List α} {lo hi : Option Int} {x : α} (h : x ∈ cut xs lo hi) : x ∈ xs := by
  unfold cut at h
  exact List.mem_of_mem_drop (List.mem_of_mem_take h)
theorem SOk.cut {s : List Nat} (h : SOk s) (lo hi : Option Int) : SOk (cut s lo hi) := ⟨Nat.le_trans (cut_length ..) h.1, fun c hc => h.2 c (cut_mem hc)⟩
theorem RepL.cut {ds : List D} {vs : List V} (h : RepL Γ.K Γ.cls κ H vs ds) (lo hi : Option Int) : RepL Γ.K Γ.cls κ H (cutV vs lo hi) (cut ds lo hi) := by
  unfold cutV Pu.cut
  rw [h.length]
  exact (h.drop _).take _
def rSlAll (K : PySem.W.Frag) : V → Option Int → Option Int → Hp → VK → Prop := fun x lo hi H Q => rSlL K x lo hi H Q ∨ rSlA K x lo hi H Q ∨ rSlS x lo hi H Q
theorem sl_all {X : Cx} : SlR X (rSlAll X.K) := SlR.or sl_list (SlR.or sl_tupA sl_str)
theorem cut_whole {α : Type} {xs : List α} {lo hi : Option Int} (h : HT.sIx xs.length 0 lo = 0 ∧ HT.sIx xs.length xs.length hi = xs.length) : cut xs lo hi = xs := by
  unfold cut
  rw [h.1, h.2]
  simp
theorem line_eq' : (sizeLine : Nat) = 16777216 := sizeLine_eq
theorem rep_ints : ∀ ns : List Int, RepL Γ.K Γ.cls κ H (ns.map V.int) (ns.map D.int)
  | [] => .nil
  | i :: ns => .cons (.int i) (rep_ints ns)
theorem cutV_map {α : Type} (f : α → V) (xs : List α) (lo hi : Option Int) : cutV (xs.map f) lo hi = (cut xs lo hi).map f := by
  unfold cutV cut
  rw [List.length_map, ← List.map_drop, ← List.map_take]
theorem cut_len_eq {α β : Type} {xs : List α} {ys : List β} (h : xs.length = ys.length) (lo hi : Option Int) : (cut xs lo hi).length = (cut ys lo hi).length := by
  unfold cut
  simp only [List.length_take, List.length_drop, h]
theorem ve_slice {lo hi : Option Expr} {tl th : PTO} {p2 : Pos} (ha : VE Y e te) (hl : VO Y lo tl) (hh : VO Y hi th) : VE Y (.Subscript e (.Slice lo hi none p2) pos) (tSl te tl th) := by
  obtain ⟨ra, pa, fa⟩ := ha.ex
  obtain ⟨rl, pl, fl⟩ := hl.ex
  obtain ⟨rh, ph, fh⟩ := hh.ex
  refine ⟨⟨fun E => L2.tSl (rSlAll Y.K) (ra E) (rl E) (rh E), fun i => pe_slice (by have := sl_all (X := Y.X i); rw [Y.hK i] at this; exact this) (pa i) (pl i) (ph i), fun Γ σ κ H env Q Q' hK I q k => ?_⟩⟩
  refine fa Γ σ κ H env _ _ hK I q fun v κ1 H1 r1 e1 x1 I1 h1 q1 => ?_
  refine hold_ok I1 h1 q1 fun κ2 r2 x2 I2 h2 q2 => ?_
  refine fl Γ σ κ2 H1 e1 _ _ hK I2 q2 fun l κ3 H3 e3 x3 I3 q3 => ?_
  refine fh Γ σ κ3 H3 e3 _ _ hK I3 q3 fun h κ4 H4 e4 x4 I4 q4 => ?_
  have x := ((x1.trans x2).trans x3).trans x4
  have h2' : RelR Γ κ4 H4 e4 σ v r2 := ((h2.ext x3).ext x4).rel
  rw [← hK.k]
  cases e1' : rv r2 e4 with
  | none => rw [e1'] at q4; exact False.elim q4
  | some d =>
    rw [e1'] at q4
    have rt := rv_ok I4 h2' e1'
    cases d with
    | lst ds =>
      obtain ⟨a, vs, rfl, g1, g2, g3⟩ := rt
      refine .inl ⟨a, vs, rfl, SqL.of g1, fun p hp => ?_⟩
      exact k _ κ4 _ (.own (cut ds l h)) e4 (x.trans (Ext.upd_new I4.gh hp)) (I4.upd_new hp) (new_lst I4 hp (Nat.le_trans (cutV_length ..) g2) (g3.cut l h)) q4
    | tup ds =>
      have rt0 : Rep Γ.K Γ.cls κ4 H4 v (.tup ds) := rt
      obtain ⟨a, vs, rfl, g1, g2, g3⟩ := Rep.sqT rt
      refine .inr (.inl ⟨a, vs, rfl, g1, fun hw => ?_, fun hw p hp => ?_⟩)
      · have : cut ds l h = ds := cut_whole (by rw [← g3.length]; exact hw)
        have q4 : Q (.d (.tup (cut ds l h))) e4 := q4
        rw [this] at q4
        exact k _ κ4 H4 (.d (.tup ds)) e4 x I4 rt0 q4
      · obtain ⟨x5, I5, r5⟩ := new_tup I4 hp (Nat.le_trans (cutV_length vs l h) g2) (g3.cut l h)
        exact k _ _ _ (.d (.tup (cut ds l h))) e4 (x.trans x5) I5 r5 q4
    | scr n =>
      cases rt with
      | @scr a ns _ g1 hn g2 =>
        subst hn
        refine .inl ⟨a, ns.map V.int, rfl, ?_, fun p hp => ?_⟩
        · rcases g1 with ⟨_, g1⟩ | g1
          · exact .inl g1
          · exact .inr g1
        · rw [cutV_map]
          refine k _ κ4 _ (.own ((cut ns l h).map D.int)) e4 (x.trans (Ext.upd_new I4.gh hp)) (I4.upd_new hp) (new_lst I4 hp ?_ (rep_ints _)) (q4 _ (cut_len_eq (by simp) l h))
          rw [List.length_map, line_eq']
          have := cut_length ns l h
          omega
    | str s =>
      obtain ⟨rfl, hs⟩ := Rep.strE rt
      refine .inr (.inr ⟨_, rfl, by rw [str_len]; exact hs.1, ?_⟩)
      have : cutS ⟨s.toArray⟩ l h = ⟨(cut s l h).toArray⟩ := by
        unfold cutS Pu.cut
        rw [str_len]
      rw [this]
      exact k _ κ4 H4 (.d (.str (cut s l h))) e4 x I4 (.str _ (hs.cut l h)) q4
    | _ => exact False.elim q4

/-! ### a slot is stored -/
def asgR (i : Nat) : R → En → (En → Prop) → Prop
  | .d d, e, Q => Q (e.setC i (.d d))
  | .own ds, e, Q => Q (e.setC i (.own ds))
  | .dK ds, e, Q => Q (e.setC i (.dK ds))
  | .dT ds, e, Q => Q (e.setC i (.dT ds))
  | .nam j, e, Q => fz (.nam j) e fun d e1 => Q (e1.setC i (.d d))
theorem Rl.assign {i : Nat} {c : C} (I : Rl Γ κ env σ H) (hi : i < σ.length) (r : RelS Γ κ H (some (some v)) c) (hn : c.isOwn = true → ∀ j a, v = .ref a → ¬ OwnS env σ j a) : Rl Γ κ (env.setC i c) (σ.set i (some v)) H := by
  have hi' : i < env.sl.length := by rw [← I.len]; exact hi
  have old : ∀ m b, m ≠ i → OwnS (env.setC i c) (σ.set i (some v)) m b → OwnS env σ m b := fun m b hm ⟨z1, c', z2, z3⟩ => by
    have z2 : (env.sl.set i c)[m]? = some c' := z2
    rw [List.getElem?_set_ne (Ne.symm hm)] at z1 z2
    exact ⟨z1, c', z2, z3⟩
  have new : ∀ b, OwnS (env.setC i c) (σ.set i (some v)) i b → c.isOwn = true ∧ v = .ref b := fun b ⟨z1, c', z2, z3⟩ => by
    have z2 : (env.sl.set i c)[i]? = some c' := z2
    rw [List.getElem?_set_self hi] at z1
    rw [List.getElem?_set_self hi'] at z2
    cases z2
    exact ⟨z3, by cases z1; rfl⟩
  refine ⟨by simp [En.setC, I.len], fun j c' ec => ?_, fun j l b o1 o2 => ?_, I.gh⟩
  · have ec : (env.sl.set i c)[j]? = some c' := ec
    by_cases hj : j = i
    · subst hj
      rw [List.getElem?_set_self hi'] at ec
      cases ec
      rw [List.getElem?_set_self hi]
      exact r
    · rw [List.getElem?_set_ne (Ne.symm hj)] at ec ⊢
      exact I.get ec
  · by_cases hj : j = i
    · by_cases hl : l = i
      · exact hj.trans hl.symm
      · subst hj
        obtain ⟨n1, n2⟩ := new b o1
        exact absurd (old l b hl o2) (hn n1 l b n2)
    · by_cases hl : l = i
      · subst hl
        obtain ⟨n1, n2⟩ := new b o2
        exact absurd (old j b hj o1) (hn n1 j b n2)
      · exact I.dist j l b (old j b hj o1) (old l b hl o2)
theorem asg_ok {i : Nat} {r : R} {Q : En → Prop} {P : Prop} (I : Rl Γ κ env σ H) (hi : i < σ.length) (h : RelR Γ κ H env σ v r) (q : asgR i r env Q)
    (k : ∀ κ' env', Ext κ H κ' H → Rl Γ κ' env' (σ.set i (some v)) H → Q env' → P) : P := by
  cases r with
  | d d => exact k κ _ (.refl ..) (I.assign (c := .d d) hi ⟨v, rfl, h⟩ fun z => nomatch z) q
  | own ds =>
    obtain ⟨a, rfl, h1, h2⟩ := h
    exact k κ _ (.refl ..) (I.assign (c := .own ds) hi ⟨a, rfl, h1⟩ fun _ j b e => by cases e; exact h2 j) q
  | dK ds =>
    obtain ⟨a, rfl, h1, h2⟩ := h
    exact k κ _ (.refl ..) (I.assign (c := .dK ds) hi ⟨a, rfl, h1⟩ fun _ j b e => by cases e; exact h2 j) q
  | dT ds =>
    obtain ⟨a, rfl, h1, h2⟩ := h
    exact k κ _ (.refl ..) (I.assign (c := .dT ds) hi ⟨a, rfl, h1⟩ fun _ j b e => by cases e; exact h2 j) q
  | nam j =>
    have q : fz (.nam j) env (fun d e1 => Q (e1.setC i (.d d))) := q
    refine fz_ok I h q fun κ1 d e1 x1 I1 h1 q1 => ?_
    exact k κ1 _ x1 (I1.assign (c := .d d) hi ⟨v, rfl, h1⟩ fun z => nomatch z) q1

/-! ### targets that take data -/
abbrev PTG := D → En → (En → Prop) → Prop
abbrev PTGs := List D → En → (En → Prop) → Prop
/-- vs: the slots that may be stored -/
def Off (vs : List Nat) (σ σ' : Sl) : Prop := σ'.length = σ.length ∧ ∀ j, j ∉ vs → σ'[j]? = σ[j]?
theorem Off.refl (vs : List Nat) (σ : Sl) : Off vs σ σ := ⟨rfl, fun _ _ => rfl⟩
theorem Off.trans {vs : List Nat} {σ σ1 σ2 : Sl} (a : Off vs σ σ1) (b : Off vs σ1 σ2) : Off vs σ σ2 := ⟨b.1.trans a.1, fun j h => (b.2 j h).trans (a.2 j h)⟩
theorem Off.mono {vs ws : List Nat} {σ σ' : Sl} (a : Off vs σ σ') (h : ∀ j ∈ vs, j ∈ ws) : Off ws σ σ' := ⟨a.1, fun j hj => a.2 j fun z => hj (h j z)⟩
structure VG (Y : Fam) (tg : Expr) (vs : List Nat) (t : PTG) : Prop where
  ex : ∃ rd : TG, (∀ i, PG (Y.X i) tg rd) ∧ ∀ (Γ : Gm) (σ : Sl) (κ : Ka) (H : Hp) (env : En) (v : V) (d : D) (Q : En → Prop) (Q' : Sl → Hp → Prop), GK Y Γ → Rl Γ κ env σ H → Rep Γ.K Γ.cls κ H v d → t d env Q →
    (∀ σ' env', Off vs σ σ' → Rl Γ κ env' σ' H → Q env' → Q' σ' H) → rd v σ H Q'
structure VGs (Y : Fam) (tg : List Expr) (vs : List Nat) (t : PTGs) : Prop where
  ex : ∃ rd : TGs, (∀ i, PGs (Y.X i) tg rd) ∧ ∀ (Γ : Gm) (σ : Sl) (κ : Ka) (H : Hp) (env : En) (ws : List V) (ds : List D) (Q : En → Prop) (Q' : Sl → Hp → Prop), GK Y Γ → Rl Γ κ env σ H → RepL Γ.K Γ.cls κ H ws ds → t ds env Q →
    (∀ σ' env', Off vs σ σ' → Rl Γ κ env' σ' H → Q env' → Q' σ' H) → rd ws σ H Q'
def gName (i : Nat) : PTG := fun d e Q => i < e.sl.length ∧ Q (e.setC i (.d d))
theorem vg_name {i : Nat} {x : Str} (hN : ∀ j, (Y.X j).N.Nodup) (hi : ∀ j, (Y.X j).N[i]? = some x := by intro _; rfl) (hx : ∀ j, Loc (Y.X j).env.scope x := by first | exact fun _ => Or.inl rfl | exact fun _ => Or.inr rfl)
    (hf : ∀ j, (Y.X j).fn x = true ∨ (Y.X j).env.scope.names.lookup x = some .local := by first | exact fun _ => .inl rfl | exact fun _ => .inr rfl | assumption) : VG Y (.Name x pos) [i] (gName i) := by
  refine ⟨⟨L2.gName i, fun j => pg_name (hN j) (hi j) (hx j) (hf j), fun Γ σ κ H env v d Q Q' hK I r q k => ?_⟩⟩
  have hl : i < σ.length := by rw [I.len]; exact q.1
  refine k _ _ ⟨by simp, fun j hj => List.getElem?_set_ne (fun z => hj (by simp [z]))⟩ (I.assign (c := .d d) hl ⟨v, rfl, r⟩ fun z => nomatch z) q.2
def gNil : PTGs := fun ds e Q => ds = [] ∧ Q e
def gCons (t : PTG) (u : PTGs) : PTGs := fun ds e Q => match ds with
  | d :: r => t d e fun e' => u r e' Q
  | [] => False
theorem vgs_nil : VGs Y [] [] gNil := ⟨⟨L2.gNil, fun _ => pgs_nil, fun Γ σ κ H env ws ds Q Q' hK I r q k => by
  obtain ⟨rfl, q⟩ := q
  cases r
  exact ⟨rfl, k σ env (.refl ..) I q⟩⟩⟩
theorem vgs_cons {vs ws : List Nat} {t : PTG} {u : PTGs} (h1 : VG Y e vs t) (h2 : VGs Y es ws u) (hs : ∀ X : Cx, (assignEach (e :: es) X.env).map (·.2) = assign e X.env :: (assignEach es X.env).map (·.2) := by intro _; rfl) : VGs Y (e :: es) (vs ++ ws) (gCons t u) := by
  obtain ⟨ra, pa, fa⟩ := h1.ex
  obtain ⟨rb, pb, fb⟩ := h2.ex
  refine ⟨⟨L2.gCons ra rb, fun i => pgs_cons (pa i) (pb i) (hs _), fun Γ σ κ H env ys ds Q Q' hK I r q k => ?_⟩⟩
  match ds, ys, r, q with
  | d :: ds, _, .cons (v := v) (vs := ys) r1 r2, q =>
    refine ⟨v, ys, rfl, fa Γ σ κ H env v d _ _ hK I r1 q fun σ1 e1 o1 I1 q1 => ?_⟩
    exact fb Γ σ1 κ H e1 ys ds _ _ hK I1 r2 q1 fun σ2 e2 o2 I2 q2 => k σ2 e2 ((o1.mono fun j h => List.mem_append_left _ h).trans (o2.mono fun j h => List.mem_append_right _ h)) I2 q2
def gTup (n : Nat) (t : PTGs) : PTG := fun d e Q => match d with
  | .tup ds => ds.length = n ∧ t ds e Q
  | _ => False
theorem vg_tup {k : Nat} {vs : List Nat} {n : Nat} {t : PTGs} (h : VGs Y es vs t) (hc : ∀ i, (Y.X i).calm = true := by intro _; rfl) (hn : ∀ X : Cx, (assignEach es X.env).length = n := by intro _; rfl) (hst : ∀ X : Cx, (assignEach es X.env).findIdx? (·.1) = none := by intro _; rfl) : VG Y (.Tuple es k pos) vs (gTup n t) := by
  obtain ⟨ra, pa, fa⟩ := h.ex
  refine ⟨⟨L2.gTup Y.K n ra, fun i => by have := pg_tup (pos := pos) (k := k) (hc i) (pa i) (hn _) (hst _); rw [Y.hK i] at this; exact this, fun Γ σ κ H env v d Q Q' hK I r q k => ?_⟩⟩
  cases d with
  | tup ds =>
    obtain ⟨a, vs, rfl, h1, h2, h3⟩ := r.sqT
    exact ⟨a, vs, rfl, by rw [← hK.k]; exact h1, h3.length.trans q.1, fa Γ σ κ H env vs ds Q Q' hK I h3 q.2 k⟩
  | _ => exact False.elim q
end
end Pu
set_option maxRecDepth 100000
set_option maxHeartbeats 4000000
namespace Pu
open PySem L2
section
variable {Γ : Gm} {κ κ' : Ka} {H H' : Hp} {env env' : En} {σ : Sl} {v : V} {st : Sto} {Y : Fam} {a b e : Expr} {es : List Expr} {ta tb te : PTE} {pos : Pos} {s : Stmt} {ss body : List Stmt} {t u : PTS}

/-! ### small statements -/
def sNext : PTS := fun _ D e => D.nx e
def sSeq (t u : PTS) : PTS := fun x D e => t x { D with nx := u x D } e
theorem vss_nil : VSs Y [] sNext := ⟨⟨fun _ => tNext, fun _ => pss_nil, fun Γ σ κ H env D D' hK I q l => l.1 σ κ H env (.refl ..) I q⟩⟩
theorem vss_cons (h1 : VS Y s t) (h2 : VSs Y ss u) : VSs Y (s :: ss) (sSeq t u) := by
  obtain ⟨ra, pa, fa⟩ := h1.ex
  obtain ⟨rb, pb, fb⟩ := h2.ex
  refine ⟨⟨fun E => tSeq (ra E) (rb E), fun i => pss_cons (pa i) (pb i), fun Γ σ κ H env D D' hK I q l => ?_⟩⟩
  exact fa Γ σ κ H env { D with nx := u Γ.x D } { D' with nx := rb Γ.E D' } hK I q ⟨fun σ' κ' H' env' x I' q' => fb Γ σ' κ' H' env' D D' hK I' q' (l.ext x), l.2.1, l.2.2.1, l.2.2.2⟩
theorem vss_one (h1 : VS Y s t) : VSs Y [s] t := by
  obtain ⟨ra, pa, fa⟩ := h1.ex
  exact ⟨⟨ra, fun i => pss_one (pa i), fa⟩⟩
def sBreak : PTS := fun _ D e => D.bk e
def sCont : PTS := fun _ D e => D.ct e
theorem vs_pass : VS Y (.Pass pos) sNext := ⟨⟨fun _ => tNext, fun _ => ps_pass, fun Γ σ κ H env D D' hK I q l => l.1 σ κ H env (.refl ..) I q⟩⟩
theorem vs_break : VS Y (.Break pos) sBreak := ⟨⟨fun _ => tBreak, fun _ => ps_break, fun Γ σ κ H env D D' hK I q l => l.2.2.1 σ κ H env (.refl ..) I q⟩⟩
theorem vs_continue : VS Y (.Continue pos) sCont := ⟨⟨fun _ => tCont, fun _ => ps_continue, fun Γ σ κ H env D D' hK I q l => l.2.2.2 σ κ H env (.refl ..) I q⟩⟩
def sDrop (te : PTE) : PTS := fun x D e => te x e fun _ e1 => D.nx e1
theorem vs_expr (he : VE Y e te) (hs : ∀ i, swapsWith e none pos.line (Y.X i).env = pure false := by intro _; rfl) : VS Y (.Expr e pos) (sDrop te) := by
  obtain ⟨ra, pa, fa⟩ := he.ex
  refine ⟨⟨fun E => tDrop (ra E), fun i => ps_expr (pa i) (hs i), fun Γ σ κ H env D D' hK I q l => ?_⟩⟩
  exact fa Γ σ κ H env _ _ hK I q fun v κ1 H1 r1 e1 x1 I1 h1 q1 => l.1 σ κ1 H1 e1 x1 I1 q1
/-- what is handed back -/
def retR (D : PEn) : R → En → Prop
  | .d d, e => D.rt (.d d) e
  | .own ds, e => D.rt (.own ds) e
  | .dK ds, e => D.rt (.dK ds) e
  | .dT ds, e => D.rt (.dT ds) e
  | .nam i, e => match e.sl[i]? with
    | some .un => False
    | some c => D.rt c e
    | none => False
def sRet (te : PTE) : PTS := fun x D e => te x e fun r e1 => retR D r e1
theorem vs_ret (he : VE Y e te) : VS Y (.Return (some e) pos) (sRet te) := by
  obtain ⟨ra, pa, fa⟩ := he.ex
  refine ⟨⟨fun E => tRet (ra E), fun i => ps_ret (pa i), fun Γ σ κ H env D D' hK I q l => ?_⟩⟩
  refine fa Γ σ κ H env _ _ hK I q fun v κ1 H1 r1 e1 x1 I1 h1 q1 => ?_
  cases r1 with
  | d d => exact l.2.1 v κ1 H1 (.d d) e1 x1 I1.gh h1 q1
  | own ds => obtain ⟨a, rfl, h1, _⟩ := h1; exact l.2.1 _ κ1 H1 (.own ds) e1 x1 I1.gh ⟨a, rfl, h1⟩ q1
  | dK ds => obtain ⟨a, rfl, h1, _⟩ := h1; exact l.2.1 _ κ1 H1 (.dK ds) e1 x1 I1.gh ⟨a, rfl, h1⟩ q1
  | dT ds => obtain ⟨a, rfl, h1, _⟩ := h1; exact l.2.1 _ κ1 H1 (.dT ds) e1 x1 I1.gh ⟨a, rfl, h1⟩ q1
  | nam i =>
    have h1 : σ[i]? = some (some v) := h1
    unfold retR at q1
    simp only at q1
    cases qe : e1.sl[i]? with
    | none => rw [qe] at q1; exact False.elim q1
    | some c =>
      have s := I1.get qe
      rw [qe] at q1
      cases c with
      | un => exact False.elim q1
      | d d => obtain ⟨w, g, r⟩ := s; rw [h1] at g; cases g; exact l.2.1 v κ1 H1 (.d d) e1 x1 I1.gh r q1
      | own ds => obtain ⟨w, g, r⟩ := s; rw [h1] at g; cases g; exact l.2.1 _ κ1 H1 (.own ds) e1 x1 I1.gh ⟨w, rfl, r⟩ q1
      | dK ds => obtain ⟨w, g, r⟩ := s; rw [h1] at g; cases g; exact l.2.1 _ κ1 H1 (.dK ds) e1 x1 I1.gh ⟨w, rfl, r⟩ q1
      | dT ds => obtain ⟨w, g, r⟩ := s; rw [h1] at g; cases g; exact l.2.1 _ κ1 H1 (.dT ds) e1 x1 I1.gh ⟨w, rfl, r⟩ q1
def sRetN : PTS := fun _ D e => D.rt (.d .non) e
theorem vs_retN : VS Y (.Return none pos) sRetN := ⟨⟨fun _ => tRetN, fun _ => ps_retN, fun Γ σ κ H env D D' hK I q l => l.2.1 .non κ H (.d .non) env (.refl ..) I.gh .non q⟩⟩
def sIf (c : PTT) (t u : PTS) : PTS := fun x D e => c x e fun b e1 => if b = true then t x D e1 else u x D e1
theorem vs_if {c : Expr} {x y : List Stmt} {tc : PTT} (hc : VT Y c tc) (ha : VSs Y x t) (hb : VSs Y y u) : VS Y (.If c x y pos) (sIf tc t u) := by
  obtain ⟨rc, pc, fc⟩ := hc.ex
  obtain ⟨ra, pa, fa⟩ := ha.ex
  obtain ⟨rb, pb, fb⟩ := hb.ex
  refine ⟨⟨fun E => tIfS (rc E) (ra E) (rb E), fun i => ps_if (pc i) (pa i) (pb i), fun Γ σ κ H env D D' hK I q l => ?_⟩⟩
  refine fc Γ σ κ H env _ _ hK I q fun c κ1 H1 e1 x1 I1 q1 => ?_
  cases c with
  | true => exact fa Γ σ κ1 H1 e1 D D' hK I1 q1 (l.ext x1)
  | false => exact fb Γ σ κ1 H1 e1 D D' hK I1 q1 (l.ext x1)

/-! ### assignments -/
def sAsg (i : Nat) (te : PTE) : PTS := fun x D e => te x e fun r e1 => i < e1.sl.length ∧ asgR i r e1 D.nx
theorem vs_set {i : Nat} {x : Str} {p' : Pos} (hN : ∀ j, (Y.X j).N.Nodup) (he : VE Y e te) (hi : ∀ j, (Y.X j).N[i]? = some x := by intro _; rfl) (hx : ∀ j, Loc (Y.X j).env.scope x := by first | exact fun _ => Or.inl rfl | exact fun _ => Or.inr rfl)
    (hs : ∀ j, swapsWith e (some (.Name x p')) pos.line (Y.X j).env = pure false := by intro _; rfl)
    (hf : ∀ j, (Y.X j).fn x = true ∨ (Y.X j).env.scope.names.lookup x = some .local := by first | exact fun _ => .inl rfl | exact fun _ => .inr rfl | assumption) : VS Y (.Assign [.Name x p'] e pos) (sAsg i te) := by
  obtain ⟨ra, pa, fa⟩ := he.ex
  refine ⟨⟨fun E => tAsg (ra E) (L2.gName i), fun j => ps_set (hN j) (hi j) (hx j) (pa j) (hs j) (hf j), fun Γ σ κ H env D D' hK I q l => ?_⟩⟩
  refine fa Γ σ κ H env _ _ hK I q fun v κ1 H1 r1 e1 x1 I1 h1 q1 => ?_
  exact asg_ok I1 (by rw [I1.len]; exact q1.1) h1 q1.2 fun κ2 e2 x2 I2 q2 => l.1 _ κ2 H1 e2 (x1.trans x2) I2 q2
/-- a target of names takes data -/
def sAsgG (g : PTG) (te : PTE) : PTS := fun x D e => te x e fun r e1 => fz r e1 fun d e2 => g d e2 D.nx
theorem vs_asgG {tg : Expr} {vs : List Nat} {g : PTG} (he : VE Y e te) (hg : VG Y tg vs g) (hs : ∀ i, swapsWithSole [tg] e pos.line (Y.X i).env = pure false := by intro _; rfl) (hw : ∀ i, swappedStores [tg] e (Y.X i).env = pure none := by intro _; rfl)
    (h1 : ∀ X : Cx, (assignEach [tg] X.env).map (·.2) = [assign tg X.env] := by intro _; rfl) : VS Y (.Assign [tg] e pos) (sAsgG g te) := by
  obtain ⟨ra, pa, fa⟩ := he.ex
  obtain ⟨rg, pg, fg⟩ := hg.ex
  refine ⟨⟨fun E => tAsg (ra E) rg, fun j => ps_asg (pa j) (pg j) (hs j) (hw j) (h1 _), fun Γ σ κ H env D D' hK I q l => ?_⟩⟩
  refine fa Γ σ κ H env _ _ hK I q fun v κ1 H1 r1 e1 x1 I1 h1 q1 => ?_
  refine fz_ok I1 h1 q1 fun κ2 d e2 x2 I2 h2 q2 => ?_
  exact fg Γ σ κ2 H1 e2 v d _ _ hK I2 h2 q2 fun σ' e3 _ I3 q3 => l.1 σ' κ2 H1 e3 (x1.trans x2) I3 q3
/-- a, b = x, y -/
def sPar (i j : Nat) (t : PTA) : PTS := fun x D e => t x e fun ds e1 => match ds with
  | [d1, d2] => i < e1.sl.length ∧ j < e1.sl.length ∧ D.nx ((e1.setC i (.d d1)).setC j (.d d2))
  | _ => False
theorem vs_par {i j : Nat} {x y : Str} {px py pt : Pos} {kt k2 pt2} {t : PTA} (hN : ∀ j, (Y.X j).N.Nodup) (ha : VA Y [a, b] t) (hij : i ≠ j := by decide) (hc : ∀ i, (Y.X i).calm = true := by intro _; rfl) (hi : ∀ k, (Y.X k).N[i]? = some x := by intro _; rfl) (hj : ∀ k, (Y.X k).N[j]? = some y := by intro _; rfl)
    (hx : ∀ k, (Y.X k).env.scope.names.lookup x = some .local := by intro _; rfl) (hy : ∀ k, (Y.X k).env.scope.names.lookup y = some .local := by intro _; rfl)
    (hw : ∀ k, swappedStores [.Tuple [.Name x px, .Name y py] kt pt] (.Tuple [a, b] k2 pt2) (Y.X k).env = pure (some [x, y]) := by intro _; rfl)
    (hs : ∀ k, swapsWithSole [.Tuple [.Name x px, .Name y py] kt pt] (.Tuple [a, b] k2 pt2) pos.line (Y.X k).env = pure false := by intro _; rfl) :
    VS Y (.Assign [.Tuple [.Name x px, .Name y py] kt pt] (.Tuple [a, b] k2 pt2) pos) (sPar i j t) := by
  obtain ⟨ra, pa, fa⟩ := ha.ex
  refine ⟨⟨fun E => tPar i j (ra E), fun k => ps_par (hc k) (hN k) (hi k) (hj k) hij (hx k) (hy k) (pa k) (hw k) (hs k), fun Γ σ κ H env D D' hK I q l => ?_⟩⟩
  refine fa Γ σ κ H env _ _ hK I q fun vs κ1 H1 ds e1 x1 I1 h1 q1 => ?_
  match ds, vs, h1, q1 with
  | [d1, d2], _, .cons (v := v1) r1 (.cons (v := v2) r2 .nil), q1 =>
    refine ⟨v1, v2, rfl, l.1 _ κ1 H1 _ x1 ?_ q1.2.2⟩
    have l1 : i < σ.length := by rw [I1.len]; exact q1.1
    have l2 : j < σ.length := by rw [I1.len]; exact q1.2.1
    have J := I1.assign (c := .d d1) l1 ⟨v1, rfl, r1⟩ fun z => nomatch z
    exact J.assign (c := .d d2) (by simpa using l2) ⟨v2, rfl, r2⟩ fun z => nomatch z

/-! ### while -/
def sWhile (c : PTT) (tb : PTS) : PTS := fun x D e => ∃ (W : En → Prop) (m : En → Nat), W e ∧ ∀ e, W e →
  c x e fun b e1 => if b = true then tb x { D with nx := fun e' => W e' ∧ m e' < m e, ct := fun e' => W e' ∧ m e' < m e, bk := D.nx } e1 else D.nx e1
theorem vs_while {c : Expr} {tc : PTT} (hp : ∀ i, PassesOwn (model (Y.X i).prog (Y.X i).w) (Y.X i).A (Y.X i).env (Y.X i).xe) (hc : VT Y c tc) (hb : VSs Y body t) : VS Y (.While c body [] pos) (sWhile tc t) := by
  obtain ⟨rc, pc, fc⟩ := hc.ex
  obtain ⟨rb, pb, fb⟩ := hb.ex
  refine ⟨⟨fun E => tWhile (rc E) (rb E), fun i => ps_while (hp i) (pc i) (pb i), fun Γ σ κ H env D D' hK I q l => ?_⟩⟩
  obtain ⟨W, m, w0, turn⟩ := q
  refine ⟨fun n σ1 H1 => ∃ κ1 e1, Ext κ H κ1 H1 ∧ Rl Γ κ1 e1 σ1 H1 ∧ W e1 ∧ n = m e1, ⟨_, κ, env, .refl .., I, w0, rfl⟩, ?_⟩
  rintro n σ1 H1 ⟨κ1, e1, x1, I1, w1, rfl⟩
  refine fc Γ σ1 κ1 H1 e1 _ _ hK I1 (turn e1 w1) fun b κ2 H2 e2 x2 I2 q2 => ?_
  have x12 := x1.trans x2
  cases b with
  | true =>
    rw [if_pos rfl] at q2 ⊢
    refine ⟨fun σ' H' => ∃ κ' e', Ext κ H κ' H' ∧ Rl Γ κ' e' σ' H' ∧ W e' ∧ m e' < m e1, fun σ' H' ⟨κ', e', x', I', w', lt⟩ => ⟨_, lt, κ', e', x', I', w', rfl⟩, ?_⟩
    refine fb Γ σ1 κ2 H2 e2 _ _ hK I2 q2 ⟨fun σ' κ' H' e' x' I' q' => ⟨κ', e', x12.trans x', I', q'⟩, fun v κ' H' c e' x' g r q' => l.2.1 v κ' H' c e' (x12.trans x') g r q', fun σ' κ' H' e' x' I' q' => l.1 σ' κ' H' e' (x12.trans x') I' q', fun σ' κ' H' e' x' I' q' => ⟨κ', e', x12.trans x', I', q'⟩⟩
  | false =>
    rw [if_neg Bool.false_ne_true] at q2 ⊢
    exact l.1 σ1 κ2 H2 e2 x12 I2 q2

/-! ### what is walked -/
def Src (K : PySem.W.Frag) (cl : Nat → Addr) (κ : Ka) (H : Hp) (J : It) (items : List D) : Prop := ∀ (Γ : Gm), Γ.K = K → Γ.cls = cl → ∀ (σ : Sl) (κ1 : Ka) (H1 : Hp) (env : En) (i : Nat), Rl Γ κ1 env σ H1 → Ext κ H κ1 H1 →
  (∀ d, items[i]? = some d → J.go i H1 ∧ ∀ v H', J.yld i H1 v H' → ∃ κ', Ext κ1 H1 κ' H' ∧ Rl Γ κ' env σ H' ∧ Rep Γ.K Γ.cls κ' H' v d) ∧ (items.length = i → J.stop i H1)
abbrev PTI := PX → En → (List D → En → Prop) → Prop
structure VI (Y : Fam) (tg it : Expr) (t : PTI) : Prop where
  ex : ∃ rd : XK → TI, (∀ i, PI (Y.X i) tg it (rd (Y.E i))) ∧ ∀ (Γ : Gm) (σ : Sl) (κ : Ka) (H : Hp) (env : En) (Q : List D → En → Prop) (Q' : It → Hp → Prop), GK Y Γ → Rl Γ κ env σ H → t Γ.x env Q →
    (∀ J κ' H' items env', Ext κ H κ' H' → Rl Γ κ' env' σ H' → Src Γ.K Γ.cls κ' H' J items → Q items env' → Q' J H') → rd Γ.E σ H Q'
theorem Src.ext {K : PySem.W.Frag} {cl : Nat → Addr} {J : It} {items : List D} {κ1 : Ka} {H1 : Hp} (h : Src K cl κ H J items) (x : Ext κ H κ1 H1) : Src K cl κ1 H1 J items := fun Γ hK hc σ κ2 H2 env i I x2 => h Γ hK hc σ κ2 H2 env i I (x.trans x2)
/-- the script's own law never walks: lists, tuples, texts -/
def iSeq (te : PTE) : PTI := fun x e Q => te x e fun r e1 => fz r e1 fun d e2 => match d with
  | .lst ds => Q ds e2
  | _ => False
theorem src_list {a : Addr} {vs : List V} {ds : List D} (hk : κ a = some .frz) (ha : H a = some (.lst vs)) (r : RepL Γ.K Γ.cls κ H vs ds) : Src Γ.K Γ.cls κ H (Itl Γ.K a) ds := by
  intro Γ2 hK hc
  rw [← hK, ← hc] at r
  rw [← hK]
  intro σ κ1 H1 env i I x
  have h1 : SqL Γ2.K H1 a vs := SqL.of ((x.2 a hk).trans ha)
  refine ⟨fun d e => ?_, fun e => ⟨vs, h1, by rw [r.length, e]; exact Nat.le_refl _⟩⟩
  obtain ⟨v, e1, r1⟩ := r.get e
  refine ⟨⟨vs, v, h1, e1⟩, fun w H' y => ?_⟩
  obtain ⟨rfl, y⟩ := y
  have := y vs h1
  rw [e1] at this
  cases this
  exact ⟨κ1, .refl .., I, r1.mono x⟩
theorem src_tup {a : Addr} {vs : List V} {ds : List D} (h : Rep Γ.K Γ.cls κ H (.ref a) (.tup ds)) : Src Γ.K Γ.cls κ H (Itt Γ.K a) ds := by
  intro Γ2 hK hc
  rw [← hK, ← hc] at h
  rw [← hK]
  intro σ κ1 H1 env i I x
  obtain ⟨b, vs, e0, h1, _, r⟩ := (h.mono x).sqT
  cases e0
  refine ⟨fun d e => ?_, fun e => ⟨vs, h1, by rw [r.length, e]; exact Nat.le_refl _⟩⟩
  obtain ⟨v, e1, r1⟩ := r.get e
  refine ⟨⟨vs, v, h1, e1⟩, fun w H' y => ?_⟩
  obtain ⟨rfl, y⟩ := y
  have := y vs h1
  rw [e1] at this
  cases this
  exact ⟨κ1, .refl .., I, r1⟩
theorem vi_list {tg : Expr} (he : VE Y e te) : VI Y tg e (iSeq te) := by
  obtain ⟨ra, pa, fa⟩ := he.ex
  refine ⟨⟨fun E => iList Y.K (ra E), fun i => by have := pi_list (tg := tg) (pa i); rw [Y.hK i] at this; exact this, fun Γ σ κ H env Q Q' hK I q k => ?_⟩⟩
  refine fa Γ σ κ H env _ _ hK I q fun v κ1 H1 r1 e1 x1 I1 h1 q1 => ?_
  refine fz_ok I1 h1 q1 fun κ2 d e2 x2 I2 h2 q2 => ?_
  cases d with
  | lst ds =>
    cases h2 with
    | lst g1 g2 g3 g4 =>
      refine ⟨_, rfl, ⟨_, SqL.of g2⟩, ?_⟩
      rw [← hK.k]
      exact k _ κ2 H1 ds e2 (x1.trans x2) I2 (src_list g1 g2 g4) q2
  | _ => exact False.elim q2
def iTupP (te : PTE) : PTI := fun x e Q => te x e fun r e1 => fz r e1 fun d e2 => match d with
  | .tup ds => Q ds e2
  | _ => False
theorem vi_tup {tg : Expr} (he : VE Y e te) : VI Y tg e (iTupP te) := by
  obtain ⟨ra, pa, fa⟩ := he.ex
  refine ⟨⟨fun E => iTup Y.K (ra E), fun i => by have := pi_tup (tg := tg) (pa i); rw [Y.hK i] at this; exact this, fun Γ σ κ H env Q Q' hK I q k => ?_⟩⟩
  refine fa Γ σ κ H env _ _ hK I q fun v κ1 H1 r1 e1 x1 I1 h1 q1 => ?_
  refine fz_ok I1 h1 q1 fun κ2 d e2 x2 I2 h2 q2 => ?_
  cases d with
  | tup ds =>
    obtain ⟨a, vs, rfl, g1, _, _⟩ := h2.sqT
    refine ⟨a, rfl, ⟨vs, by rw [← hK.k]; exact g1⟩, ?_⟩
    rw [← hK.k]
    exact k _ κ2 H1 ds e2 (x1.trans x2) I2 (src_tup (vs := vs) h2) q2
  | _ => exact False.elim q2
/-- a text, sign by sign -/
def signs (s : List Nat) : List D := s.map fun c => .str [c]
def iStrP (te : PTE) : PTI := fun x e Q => te x e fun r e1 => fz r e1 fun d e2 => match d with
  | .str s => Q (signs s) e2
  | _ => False
theorem src_str {K : PySem.W.Frag} {cl : Nat → Addr} {s : List Nat} (hs : SOk s) : Src K cl κ H (Its ⟨s.toArray⟩) (signs s) := by
  intro Γ2 hK hc σ κ1 H1 env i I x
  refine ⟨fun d e => ?_, fun e => ?_⟩
  · unfold signs at e
    rw [List.getElem?_map] at e
    cases q : s[i]? with
    | none => rw [q] at e; cases e
    | some c =>
      rw [q] at e
      cases e
      refine ⟨?_, fun v H' y => ?_⟩
      · show i < s.toArray.size
        rw [List.size_toArray]
        exact (List.getElem?_eq_some_iff.mp q).1
      · obtain ⟨rfl, c', e1, rfl⟩ := y
        have e1 : s.toArray[i]? = some c' := e1
        rw [List.getElem?_toArray, q] at e1
        cases e1
        exact ⟨κ1, .refl .., I, .str _ (hs.one (List.mem_of_getElem? q))⟩
  · show s.toArray.size ≤ i
    rw [List.size_toArray, ← e]
    unfold signs
    rw [List.length_map]
    exact Nat.le_refl _
theorem vi_str {tg : Expr} (he : VE Y e te) : VI Y tg e (iStrP te) := by
  obtain ⟨ra, pa, fa⟩ := he.ex
  refine ⟨⟨fun E => iStr (ra E), fun i => pi_str (pa i), fun Γ σ κ H env Q Q' hK I q k => ?_⟩⟩
  refine fa Γ σ κ H env _ _ hK I q fun v κ1 H1 r1 e1 x1 I1 h1 q1 => ?_
  refine fz_ok I1 h1 q1 fun κ2 d e2 x2 I2 h2 q2 => ?_
  cases d with
  | str s =>
    obtain ⟨rfl, hs⟩ := h2.strE
    exact ⟨_, rfl, k _ κ2 H1 (signs s) e2 (x1.trans x2) I2 (src_str hs) q2⟩
  | _ => exact False.elim q2
/-- range -/
def rngI (lo : Int) (n : Nat) : List D := (List.range n).map fun (i : Nat) => .int (lo + i)
theorem src_range {K : PySem.W.Frag} {cl : Nat → Addr} {lo : Int} {n : Nat} : Src K cl κ H (Itr lo n) (rngI lo n) := by
  intro Γ2 hK hc σ κ1 H1 env i I x
  refine ⟨fun d e => ?_, fun e => ?_⟩
  · unfold rngI at e
    rw [List.getElem?_map] at e
    by_cases hi : i < n
    · rw [List.getElem?_range hi] at e
      cases e
      refine ⟨hi, fun v H' y => ?_⟩
      obtain ⟨rfl, rfl⟩ := y
      exact ⟨κ1, .refl .., I, .int _⟩
    · rw [List.getElem?_eq_none (by simpa using hi)] at e
      cases e
  · show n ≤ i
    rw [← e]
    unfold rngI
    simp
def pRng1 : List D → (List D → Prop) → Prop
  | [.int j], Q => (-(2 ^ 62) ≤ j ∧ j < 2 ^ 62) ∧ Q (rngI 0 j.toNat)
  | _, _ => False
def pRng2 : List D → (List D → Prop) → Prop
  | [.int i, .int j], Q => (-(2 ^ 62) ≤ i ∧ i < 2 ^ 62 ∧ -(2 ^ 62) ≤ j ∧ j < 2 ^ 62) ∧ Q (rngI i (j - i).toNat)
  | _, _ => False
def iPure (p : List D → (List D → Prop) → Prop) (t : PTR) : PTI := fun x e Q => t x e fun rs e1 => match rvL rs e1 with
  | some ds => p ds (fun l => Q l e1)
  | none => False
theorem vi_range1 {tg : Expr} {p : Pos} {t : PTR} (hm : ∀ i, (Y.X i).mg "range" = none) (ha : VR Y [a] t) (hg : ∀ i, Gl (Y.X i) "range" := by intro _; rfl) (hs : ∀ X : Cx, starEach [a] X.env = [(false, eval a X.env)] := by intro _; rfl) : VI Y tg (.Call (.Name "range" p) [a] [] pos) (iPure pRng1 t) := by
  obtain ⟨ra, pa, fa⟩ := ha.ex
  refine ⟨⟨fun E => iRng1 (ra E), fun i => pi_range1 (hg i) (hm i) (pa i) (hs _), fun Γ σ κ H env Q Q' hK I q k => ?_⟩⟩
  refine fa Γ σ κ H env _ _ hK I q fun vs κ1 H1 rs e1 x1 I1 h1 q1 => ?_
  cases e : rvL rs e1 with
  | none => rw [e] at q1; exact False.elim q1
  | some ds =>
    rw [e] at q1
    have rt := rvL_ok I1 h1 e
    match ds, vs, rt, q1 with
    | [.int j], _, .cons h .nil, q1 =>
      cases h
      exact ⟨j, rfl, q1.1.1, q1.1.2, k _ κ1 H1 _ e1 x1 I1 src_range q1.2⟩
theorem vi_range2 {tg : Expr} {p : Pos} {t : PTR} (hm : ∀ i, (Y.X i).mg "range" = none) (ha : VR Y [a, b] t) (hg : ∀ i, Gl (Y.X i) "range" := by intro _; rfl) (hs : ∀ X : Cx, starEach [a, b] X.env = [(false, eval a X.env), (false, eval b X.env)] := by intro _; rfl) (hs2 : ∀ X : Cx, starEach [b] X.env = [(false, eval b X.env)] := by intro _; rfl) : VI Y tg (.Call (.Name "range" p) [a, b] [] pos) (iPure pRng2 t) := by
  obtain ⟨ra, pa, fa⟩ := ha.ex
  refine ⟨⟨fun E => iRng2 (ra E), fun i => pi_range2 (hg i) (hm i) (pa i) (hs _) (hs2 _), fun Γ σ κ H env Q Q' hK I q k => ?_⟩⟩
  refine fa Γ σ κ H env _ _ hK I q fun vs κ1 H1 rs e1 x1 I1 h1 q1 => ?_
  cases e : rvL rs e1 with
  | none => rw [e] at q1; exact False.elim q1
  | some ds =>
    rw [e] at q1
    have rt := rvL_ok I1 h1 e
    match ds, vs, rt, q1 with
    | [.int i, .int j], _, .cons h (.cons h' .nil), q1 =>
      cases h
      cases h'
      exact ⟨i, j, rfl, q1.1, k _ κ1 H1 _ e1 x1 I1 src_range q1.2⟩

/-! ### for -/
def forR (g : PTG) (tb : PTS) (x : PX) (P : PEn) : List D → En → Prop
  | [], e => P.nx e
  | d :: ds, e => g d e fun e' => tb x { P with nx := forR g tb x P ds, ct := forR g tb x P ds, bk := P.nx } e'
def sFor (ti : PTI) (g : PTG) (tb : PTS) : PTS := fun x D e => ti x e fun items e1 => forR g tb x D items e1
theorem vs_for {tg it : Expr} {ti : PTI} {g : PTG} {vs : List Nat} (hp : ∀ i, PassesOwn (model (Y.X i).prog (Y.X i).w) (Y.X i).A (Y.X i).env (Y.X i).xe) (hi : VI Y tg it ti) (hg : VG Y tg vs g) (hb : VSs Y body t)
    (hc : ∀ i, (Y.X i).calm = true := by intro _; rfl) (hs : ∀ (X : Cx) x, foldedSetIterable it X.env x = pure x := by intro _ _; rfl) : VS Y (.For tg it body [] pos) (sFor ti g t) := by
  obtain ⟨ri, pi, fi⟩ := hi.ex
  obtain ⟨rg, pg, fg⟩ := hg.ex
  obtain ⟨rb, pb, fb⟩ := hb.ex
  refine ⟨⟨fun E => tFor (ri E) rg (rb E), fun i => ps_for (hp i) (hc i) (pi i) (pg i) (pb i) (hs _), fun Γ σ κ H env D D' hK I q l => ?_⟩⟩
  refine fi Γ σ κ H env _ _ hK I q fun J κ1 H1 items e1 x1 I1 src q1 => ?_
  refine ⟨fun i m σ2 H2 => ∃ κ2 e2, Ext κ1 H1 κ2 H2 ∧ Rl Γ κ2 e2 σ2 H2 ∧ m = items.length - i ∧ i ≤ items.length ∧ forR g t Γ.x D (items.drop i) e2, ⟨_, κ1, e1, .refl .., I1, rfl, Nat.zero_le _, q1⟩, ?_⟩
  rintro i m σ2 H2 ⟨κ2, e2, x2, I2, rfl, hi, q2⟩
  obtain ⟨s1, s2⟩ := src Γ rfl rfl σ2 κ2 H2 e2 i I2 x2
  by_cases hlt : i < items.length
  · have hd : items.drop i = items[i] :: items.drop (i + 1) := List.drop_eq_getElem_cons hlt
    rw [hd] at q2
    obtain ⟨go, yl⟩ := s1 items[i] (List.getElem?_eq_getElem hlt)
    refine .inr ⟨go, fun σ' H' => ∃ κ' e', Ext κ1 H1 κ' H' ∧ Rl Γ κ' e' σ' H' ∧ forR g t Γ.x D (items.drop (i + 1)) e', fun σ' H' ⟨κ', e', x', I', q'⟩ => ⟨items.length - (i + 1), by omega, κ', e', x', I', rfl, hlt, q'⟩, fun v H' y => ?_⟩
    obtain ⟨κ3, x3, I3, r3⟩ := yl v H' y
    refine fg Γ σ2 κ3 H' e2 v _ _ _ hK I3 r3 q2 fun σ4 e4 _ I4 q4 => ?_
    have x13 := x2.trans x3
    exact fb Γ σ4 κ3 H' e4 _ _ hK I4 q4 ⟨fun σ' κ' H' e' x' I' q' => ⟨κ', e', x13.trans x', I', q'⟩, fun v κ' H' c e' x' gg r q' => l.2.1 v κ' H' c e' (x1.trans (x13.trans x')) gg r q', fun σ' κ' H' e' x' I' q' => l.1 σ' κ' H' e' (x1.trans (x13.trans x')) I' q', fun σ' κ' H' e' x' I' q' => ⟨κ', e', x13.trans x', I', q'⟩⟩
  · have e : i = items.length := by omega
    subst e
    rw [List.drop_length] at q2
    exact .inl ⟨s2 rfl, l.1 σ2 κ2 H2 e2 (x1.trans x2) I2 q2⟩
end
end Pu
set_option maxRecDepth 100000
set_option maxHeartbeats 4000000
namespace Pu
open PySem L2
section
variable {Γ Γ' : Gm} {κ κ' : Ka} {H H' : Hp} {env env' : En} {σ : Sl} {v : V} {st : Sto} {Y : Fam} {a b e : Expr} {es : List Expr} {ta tb te : PTE} {pos : Pos}

/-! ### another ground -/
theorem OwnC.switch {a : Addr} {c : C} (hK : Γ'.K = Γ.K) (hc : Γ'.cls = Γ.cls) (h0 : Γ'.H0 a = none) (h : OwnC Γ κ H a c) : OwnC Γ' κ H a c := by
  cases c with
  | own ds => obtain ⟨h1, _, vs, h2, h3, h4⟩ := h; exact ⟨h1, h0, vs, h2, h3, by rw [hK, hc]; exact h4⟩
  | dK ds => obtain ⟨h1, _, vs, h2, h4⟩ := h; exact ⟨h1, h0, vs, h2, by rw [hK, hc]; exact h4⟩
  | dT ds => obtain ⟨h1, _, vs, h2, h4⟩ := h; exact ⟨h1, h0, vs, h2, by rw [hK, hc]; exact h4⟩
  | _ => exact h.elim
theorem ObjR.switch {a : Addr} {so : SO} (hK : Γ'.K = Γ.K) (hc : Γ'.cls = Γ.cls) (h : ObjR Γ κ H a so) : ObjR Γ' κ H a so := by
  cases so with
  | lst ds => obtain ⟨vs, h1, h2, h3⟩ := h; exact ⟨vs, h1, h2, by rw [hK, hc]; exact h3⟩
  | dK ds => obtain ⟨vs, h1, h3⟩ := h; exact ⟨vs, h1, by rw [hK, hc]; exact h3⟩
  | dT ds => obtain ⟨vs, h1, h3⟩ := h; exact ⟨vs, h1, by rw [hK, hc]; exact h3⟩
  | ins c fs => obtain ⟨dx, vs, h1, h3⟩ := h; exact ⟨dx, vs, by rw [hc]; exact h1, by rw [hK, hc]; exact h3⟩
  | exc c ds => exact h
theorem Rl.switch (hK : Γ'.K = Γ.K) (hc : Γ'.cls = Γ.cls) (I : Rl Γ κ env σ H) (own : ∀ i a, OwnS env σ i a → Γ'.H0 a = none) (g : Gh Γ' κ env.st H) : Rl Γ' κ env σ H := by
  refine ⟨I.len, fun i c ec => ?_, I.dist, g⟩
  have s := I.get ec
  cases h : c.isOwn with
  | true =>
    obtain ⟨a, e1, ho⟩ := s.own h
    exact .mk e1 (ho.switch hK hc (own i a ⟨e1, c, ec, h⟩))
  | false =>
    cases c with
    | un => trivial
    | d d => obtain ⟨v, e1, r⟩ := s; exact ⟨v, e1, by rw [hK, hc]; exact r⟩
    | _ => cases h
/-- one address more stands still; no exception leaves -/
def Gm.prot (Γ : Gm) (D : Addr) (o : HO) : Gm := { Γ with H0 := upd Γ.H0 D o, E := E0, x := fun _ _ => False }
theorem Rl.prot {D : Addr} {o : HO} (I : Rl Γ κ env σ H) (h : H D = some o) (hk : κ D = none) (ho : ∀ i, ¬ OwnS env σ i D) : Rl (Γ.prot D o) κ env σ H := by
  have nk : Γ.k0 D = none := by
    cases q : Γ.k0 D with
    | none => rfl
    | some x => have := I.gh.sub D x q; rw [hk] at this; cases this
  have g := I.gh
  refine Rl.switch (Γ := Γ) (Γ' := Γ.prot D o) rfl rfl I (fun i a hs => ?_) ⟨g.sub, fun a x e => ?_, g.trk, fun a e => ?_, g.box, fun a k e => ?_, g.inj, fun a u e hk' => ?_⟩
  · have hne : a ≠ D := fun z => ho i (z ▸ hs)
    show upd Γ.H0 D o a = none
    rw [upd_ne hne]
    obtain ⟨c, _, hc⟩ := I.ownS hs
    exact hc.facts.2.1
  · rcases g.new a x e with z | z
    · exact .inl z
    · refine .inr ?_
      show upd Γ.H0 D o a = none
      rw [upd_ne (fun q => by rw [q, hk] at e; cases e)]
      exact z
  · by_cases ha : a = D
    · rw [ha, h]; simp
    · have e : upd Γ.H0 D o a ≠ none := e
      rw [upd_ne ha] at e
      exact g.trk0 a e
  · obtain ⟨so, h1, h2⟩ := g.obj a k e
    exact ⟨so, h1, h2.switch rfl rfl⟩
  · have e : upd Γ.H0 D o a = some u := e
    by_cases ha : a = D
    · subst ha
      rw [upd_same] at e
      cases e
      exact h
    · rw [upd_ne ha] at e
      exact g.base a u e hk'
theorem Rl.unprot {D : Addr} {o : HO} (I : Rl (Γ.prot D o) κ env σ H) (nk : Γ.k0 D = none) (h0 : Γ.H0 D = none) : Rl Γ κ env σ H ∧ κ D = none ∧ H D = some o ∧ ∀ i, ¬ OwnS env σ i D := by
  have g := I.gh
  have hD : (Γ.prot D o).H0 D = some o := upd_same
  have kD : κ D = none := by
    cases q : κ D with
    | none => rfl
    | some x =>
      rcases g.new D x q with z | z
      · have z : Γ.k0 D = some x := z
        rw [nk] at z; cases z
      · rw [hD] at z; cases z
  have ho : ∀ i, ¬ OwnS env σ i D := fun i hs => by
    obtain ⟨c, _, hc⟩ := I.ownS hs
    have := hc.facts.2.1
    rw [hD] at this; cases this
  have low : ∀ a, (Γ.prot D o).H0 a = none → Γ.H0 a = none := fun a z => by
    by_cases ha : a = D
    · rw [ha]; exact h0
    · have z : upd Γ.H0 D o a = none := z
      rw [upd_ne ha] at z; exact z
  have up : ∀ a u, Γ.H0 a = some u → (Γ.prot D o).H0 a = some u := fun a u z => by
    show upd Γ.H0 D o a = some u
    rw [upd_ne (fun q => by rw [q, h0] at z; cases z)]; exact z
  refine ⟨Rl.switch (Γ := Γ.prot D o) (Γ' := Γ) rfl rfl I (fun i a hs => ?_) ⟨g.sub, fun a x e => ?_, g.trk, fun a e => ?_, g.box, fun a k e => ?_, g.inj, fun a u e hk' => g.base a u (up a u e) hk'⟩, kD, g.base D o hD (.inl nk), ho⟩
  · obtain ⟨c, _, hc⟩ := I.ownS hs
    exact low a hc.facts.2.1
  · rcases g.new a x e with z | z
    · exact .inl z
    · exact .inr (low a z)
  · refine g.trk0 a ?_
    cases q : Γ.H0 a with
    | none => exact absurd q e
    | some u => rw [up a u q]; simp
  · obtain ⟨so, h1, h2⟩ := g.obj a k e
    exact ⟨so, h1, h2.switch rfl rfl⟩

/-! ### comprehensions -/
def Fam.blk (Y : Fam) (scope : Scope) : Fam where
  ι := Y.ι × Shared × Hp × Addr × List (Str × Addr) × List Addr
  X := fun p => (Y.X p.1).blk p.2.1 p.2.2.1 scope (compEnvC scope p.2.2.2.2.1 p.2.2.2.1 (Y.X p.1).env) p.2.2.2.2.2
  E := fun _ => E0
  K := Y.K
  hK := fun p => Y.hK p.1
  cls := Y.cls
  flds := Y.flds
def wipeC (l : List C) : List Nat → List C
  | [] => l
  | v :: vs => (wipeC l vs).set v .un
def wipeE (vs : List Nat) (e : En) : En := ⟨wipeC e.sl vs, e.st⟩
def restC (old : List C) (l : List C) : List Nat → List C
  | [] => l
  | v :: vs => (restC old l vs).set v (old.getD v .un)
def restE (vs : List Nat) (old e : En) : En := ⟨restC old.sl e.sl vs, e.st⟩
def plainC (l : List C) : List Nat → Bool
  | [] => true
  | v :: vs => (match l.getD v .un with | .d _ => true | .un => true | _ => false) && plainC l vs
theorem wipeC_length (l : List C) : ∀ vs, (wipeC l vs).length = l.length
  | [] => rfl
  | v :: vs => by unfold wipeC; rw [List.length_set, wipeC_length l vs]
theorem restC_length (old l : List C) : ∀ vs, (restC old l vs).length = l.length
  | [] => rfl
  | v :: vs => by unfold restC; rw [List.length_set, restC_length old l vs]
theorem wipeC_get {l : List C} {i : Nat} : ∀ {vs : List Nat}, (wipeC l vs)[i]? = if i ∈ vs then l[i]?.map (fun _ => C.un) else l[i]?
  | [] => by simp [wipeC]
  | v :: vs => by
    unfold wipeC
    by_cases hi : v = i
    · subst hi
      rw [if_pos (by simp)]
      by_cases hl : v < l.length
      · rw [List.getElem?_set_self (by rw [wipeC_length]; exact hl), List.getElem?_eq_getElem hl]; rfl
      · rw [List.getElem?_eq_none (by rw [List.length_set, wipeC_length]; omega), List.getElem?_eq_none (by omega)]; rfl
    · rw [List.getElem?_set_ne hi, wipeC_get (vs := vs)]
      have : i ∈ v :: vs ↔ i ∈ vs := by simp [Ne.symm hi]
      by_cases h : i ∈ vs
      · rw [if_pos h, if_pos (this.mpr h)]
      · rw [if_neg h, if_neg (fun z => h (this.mp z))]
theorem restC_get {old l : List C} {i : Nat} : ∀ {vs : List Nat}, (restC old l vs)[i]? = if i ∈ vs then l[i]?.map (fun _ => old.getD i .un) else l[i]?
  | [] => by simp [restC]
  | v :: vs => by
    unfold restC
    by_cases hi : v = i
    · subst hi
      rw [if_pos (by simp)]
      by_cases hl : v < l.length
      · rw [List.getElem?_set_self (by rw [restC_length]; exact hl), List.getElem?_eq_getElem hl]; rfl
      · rw [List.getElem?_eq_none (by rw [List.length_set, restC_length]; omega), List.getElem?_eq_none (by omega)]; rfl
    · rw [List.getElem?_set_ne hi, restC_get (vs := vs)]
      have : i ∈ v :: vs ↔ i ∈ vs := by simp [Ne.symm hi]
      by_cases h : i ∈ vs
      · rw [if_pos h, if_pos (this.mpr h)]
      · rw [if_neg h, if_neg (fun z => h (this.mp z))]
theorem wipe_get {σ : Sl} {i : Nat} : ∀ {vs : List Nat}, (L2.wipe σ vs)[i]? = if i ∈ vs then σ[i]?.map (fun _ => none) else σ[i]?
  | [] => by simp [L2.wipe]
  | v :: vs => by
    unfold L2.wipe
    by_cases hi : v = i
    · subst hi
      rw [if_pos (by simp)]
      by_cases hl : v < σ.length
      · rw [List.getElem?_set_self (by rw [wipe_length]; exact hl), List.getElem?_eq_getElem hl]; rfl
      · rw [List.getElem?_eq_none (by rw [List.length_set, wipe_length]; omega), List.getElem?_eq_none (by omega)]; rfl
    · rw [List.getElem?_set_ne hi, wipe_get (vs := vs)]
      have : i ∈ v :: vs ↔ i ∈ vs := by simp [Ne.symm hi]
      by_cases h : i ∈ vs
      · rw [if_pos h, if_pos (this.mpr h)]
      · rw [if_neg h, if_neg (fun z => h (this.mp z))]
/-- off vs both are the same -/
theorem wipe_off {vs : List Nat} {σ σ' : Sl} (o : Off vs (L2.wipe σ vs) σ') : L2.wipe σ' vs = L2.wipe σ vs := by
  apply List.ext_getElem?
  intro i
  rw [wipe_get, wipe_get]
  by_cases h : i ∈ vs
  · rw [if_pos h, if_pos h]
    have l := o.1
    rw [wipe_length] at l
    by_cases hl : i < σ.length
    · rw [List.getElem?_eq_getElem hl, List.getElem?_eq_getElem (show i < σ'.length by omega)]; rfl
    · rw [List.getElem?_eq_none (by omega), List.getElem?_eq_none (by omega)]
  · rw [if_neg h, if_neg h, o.2 i h, wipe_get, if_neg h]
theorem OwnS.unwipe {vs : List Nat} {i : Nat} {a : Addr} (h : OwnS (wipeE vs env) (L2.wipe σ vs) i a) : OwnS env σ i a := by
  obtain ⟨z1, c, z2, z3⟩ := h
  have z2 : (wipeC env.sl vs)[i]? = some c := z2
  rw [wipeC_get] at z2
  rw [wipe_get] at z1
  by_cases h : i ∈ vs
  · rw [if_pos h] at z2
    cases q : env.sl[i]? with
    | none => rw [q] at z2; cases z2
    | some c' => rw [q] at z2; cases z2; cases z3
  · rw [if_neg h] at z1 z2
    exact ⟨z1, c, z2, z3⟩
theorem Rl.wipe {vs : List Nat} (I : Rl Γ κ env σ H) : Rl Γ κ (wipeE vs env) (L2.wipe σ vs) H := by
  have sub : ∀ i a, OwnS (wipeE vs env) (L2.wipe σ vs) i a → OwnS env σ i a := fun i a h => h.unwipe
  refine ⟨by rw [wipe_length, I.len]; exact (wipeC_length _ _).symm, fun i c ec => ?_, fun i j a h1 h2 => I.dist i j a (sub i a h1) (sub j a h2), I.gh⟩
  have ec : (wipeC env.sl vs)[i]? = some c := ec
  rw [wipeC_get] at ec
  rw [wipe_get]
  by_cases h : i ∈ vs
  · rw [if_pos h] at ec
    cases q : env.sl[i]? with
    | none => rw [q] at ec; cases ec
    | some c' => rw [q] at ec; cases ec; trivial
  · rw [if_neg h] at ec ⊢
    exact I.get ec
theorem plainC_at {l : List C} : ∀ {ws : List Nat}, plainC l ws = true → ∀ i ∈ ws, l.getD i .un = .un ∨ ∃ d, l.getD i .un = .d d
  | [], _, i, hi => by cases hi
  | w :: ws, h, i, hi => by
    unfold plainC at h
    rw [Bool.and_eq_true] at h
    rcases List.mem_cons.mp hi with rfl | hi
    · cases q : l.getD i .un with
      | un => exact .inl rfl
      | d d => exact .inr ⟨d, rfl⟩
      | own _ => rw [q] at h; cases h.1
      | dK _ => rw [q] at h; cases h.1
      | dT _ => rw [q] at h; cases h.1
    · exact plainC_at h.2 i hi
theorem OwnS.unrest {vs : List Nat} {e0 : En} {i : Nat} {a : Addr} (hp : plainC e0.sl vs = true) (h : OwnS (restE vs e0 env) σ i a) : OwnS env (L2.wipe σ vs) i a := by
  obtain ⟨z1, c, z2, z3⟩ := h
  have z2 : (restC e0.sl env.sl vs)[i]? = some c := z2
  rw [restC_get] at z2
  by_cases h : i ∈ vs
  · rw [if_pos h] at z2
    cases q : env.sl[i]? with
    | none => rw [q] at z2; cases z2
    | some c' =>
      rw [q] at z2
      cases z2
      rcases plainC_at hp i h with z | ⟨d, z⟩ <;> (rw [z] at z3; cases z3)
  · rw [if_neg h] at z2
    exact ⟨by rw [wipe_get, if_neg h]; exact z1, c, z2, z3⟩
/-- the block's names as they were ahead -/
theorem Rl.rest {vs : List Nat} {e0 : En} {κ0 : Ka} {H0 : Hp} (I0 : Rl Γ κ0 e0 σ H0) (hp : plainC e0.sl vs = true) (x : Ext κ0 H0 κ H) (I : Rl Γ κ env (L2.wipe σ vs) H) : Rl Γ κ (restE vs e0 env) σ H := by
  have pl := fun i hi => plainC_at hp i hi
  have hl : env.sl.length = σ.length := by rw [← I.len, wipe_length]
  have sub : ∀ i a, OwnS (restE vs e0 env) σ i a → OwnS env (L2.wipe σ vs) i a := fun i a h => h.unrest hp
  refine ⟨by rw [← hl]; exact (restC_length _ _ _).symm, fun i c ec => ?_, fun i j a h1 h2 => I.dist i j a (sub i a h1) (sub j a h2), I.gh⟩
  have ec : (restC e0.sl env.sl vs)[i]? = some c := ec
  rw [restC_get] at ec
  by_cases h : i ∈ vs
  · rw [if_pos h] at ec
    cases q : env.sl[i]? with
    | none => rw [q] at ec; cases ec
    | some c' =>
      rw [q] at ec
      cases ec
      have hi : i < e0.sl.length := by rw [← I0.len, ← hl]; exact (List.getElem?_eq_some_iff.mp q).1
      have g : e0.sl[i]? = some (e0.sl.getD i .un) := by rw [List.getD_eq_getElem?_getD, List.getElem?_eq_getElem hi]; rfl
      have s := I0.get g
      rcases pl i h with z | ⟨d, z⟩
      · rw [z]; trivial
      · rw [z] at s ⊢
        obtain ⟨w, e1, r⟩ := s
        exact ⟨w, e1, r.mono x⟩
  · rw [if_neg h] at ec
    have s := I.get ec
    rw [wipe_get, if_neg h] at s
    exact s
structure VTs (Y : Fam) (ifs : List Expr) (t : PTT) : Prop where
  ex : ∃ rd : XK → TT, (∀ i, PTs (Y.X i) ifs (rd (Y.E i))) ∧ ∀ (Γ : Gm) (σ : Sl) (κ : Ka) (H : Hp) (env : En) (Q : Bool → En → Prop) (Q' : Bool → Hp → Prop), GK Y Γ → Rl Γ κ env σ H → t Γ.x env Q →
    (∀ b κ' H' env', Ext κ H κ' H' → Rl Γ κ' env' σ H' → Q b env' → Q' b H') → rd Γ.E σ H Q'
def cYes : PTT := fun _ e Q => Q true e
theorem vts_nil : VTs Y [] cYes := ⟨⟨fun _ => tYes, fun _ => pts_nil, fun Γ σ κ H env Q Q' hK I q k => k true κ H env (.refl ..) I q⟩⟩
theorem vts_one {c : Expr} {t : PTT} (h : VT Y c t) : VTs Y [c] t := by
  obtain ⟨ra, pa, fa⟩ := h.ex
  exact ⟨⟨ra, fun i => pts_one (pa i), fa⟩⟩
def noX : PX := fun _ _ => False
def lcR (g : PTG) (tt : PTT) (te : PTE) (vs : List Nat) : List D → List D → En → (List D → En → Prop) → Prop
  | [], acc, e, Q => Q acc e
  | d :: ds, acc, e, Q => g d e fun e1 => tt noX e1 fun b e2 => if b = true then te noX e2 fun r e3 => fz r e3 fun y e4 => lcR g tt te vs ds (acc ++ [y]) (wipeE vs e4) Q else lcR g tt te vs ds acc (wipeE vs e2) Q
def cLc (ti : PTI) (g : PTG) (tt : PTT) (te : PTE) (vs : List Nat) : PTE := fun x e Q => ti x e fun items e1 => items.length ≤ sizeLine ∧ plainC e1.sl vs = true ∧
  lcR g tt te vs items [] (wipeE vs e1) fun acc e2 => Q (.own acc) (restE vs e1 e2)
theorem lc_ref {scope : Scope} {tg it elt : Expr} {ifs : List Expr} {own : List (Str × Nat)} {ti : PTI} {g : PTG} {tt : PTT} {te : PTE} {vs : List Nat} {ri : XK → TI} {rg : TG} {rt : TT} {re : TE}
    (hv : own.map (·.2) = vs)
    (fi : ∀ (Γ : Gm) (σ : Sl) (κ : Ka) (H : Hp) (env : En) (Q : List D → En → Prop) (Q' : It → Hp → Prop), GK Y Γ → Rl Γ κ env σ H → ti Γ.x env Q →
    (∀ J κ' H' items env', Ext κ H κ' H' → Rl Γ κ' env' σ H' → Src Γ.K Γ.cls κ' H' J items → Q items env' → Q' J H') → ri Γ.E σ H Q')
    (fg : ∀ (Γ : Gm) (σ : Sl) (κ : Ka) (H : Hp) (env : En) (v : V) (d : D) (Q : En → Prop) (Q' : Sl → Hp → Prop), GK (Y.blk scope) Γ → Rl Γ κ env σ H → Rep Γ.K Γ.cls κ H v d → g d env Q →
    (∀ σ' env', Off vs σ σ' → Rl Γ κ env' σ' H → Q env' → Q' σ' H) → rg v σ H Q')
    (ft : ∀ (Γ : Gm) (σ : Sl) (κ : Ka) (H : Hp) (env : En) (Q : Bool → En → Prop) (Q' : Bool → Hp → Prop), GK (Y.blk scope) Γ → Γ.E = E0 → Rl Γ κ env σ H → tt Γ.x env Q →
    (∀ b κ' H' env', Ext κ H κ' H' → Rl Γ κ' env' σ H' → Q b env' → Q' b H') → rt σ H Q')
    (fe : ∀ (Γ : Gm) (σ : Sl) (κ : Ka) (H : Hp) (env : En) (Q : R → En → Prop) (Q' : VK), GK (Y.blk scope) Γ → Γ.E = E0 → Rl Γ κ env σ H → te Γ.x env Q →
    (∀ v κ' H' r env', Ext κ H κ' H' → Rl Γ κ' env' σ H' → RelR Γ κ' H' env' σ v r → Q r env' → Q' v H') → re σ H Q')
    {Q : R → En → Prop} {Q' : VK} (hK : GK Y Γ) (I : Rl Γ κ env σ H) (q : cLc ti g tt te vs Γ.x env Q)
    (k : ∀ v κ' H' r env', Ext κ H κ' H' → Rl Γ κ' env' σ H' → RelR Γ κ' H' env' σ v r → Q r env' → Q' v H') : L2.tLc (ri Γ.E) rg rt re (own.map (·.2)) σ H Q' := by
  rw [hv]
  refine fi Γ σ κ H env _ _ hK I q fun J κ1 H1 items e1 x1 I1 src q1 => ?_
  obtain ⟨hz, hp, q1⟩ := q1
  intro D hD
  have kD1 : κ1 D = none := I1.gh.nokap hD
  have hD0 : Γ.H0 D = none := I1.gh.nokap0 hD
  have nk : Γ.k0 D = none := by
    cases z : Γ.k0 D with
    | none => rfl
    | some x => have := I1.gh.sub D x z; rw [kD1] at this; cases this
  have x2 : Ext κ1 H1 κ1 (upd H1 D (.lst [])) := Ext.upd_new I1.gh hD
  have I2 := (I1.upd_new (o := .lst []) hD)
  refine ⟨fun i m H2 => ∃ κ2 e2 acc vacc, Ext κ1 H1 κ2 H2 ∧ Rl Γ κ2 e2 (L2.wipe σ vs) H2 ∧ m = items.length - i ∧ i ≤ items.length ∧ H2 D = some (.lst vacc) ∧ RepL Γ.K Γ.cls κ2 H2 vacc acc ∧ κ2 D = none ∧ (∀ j, ¬ OwnS e2 (L2.wipe σ vs) j D) ∧ acc.length ≤ i ∧
      lcR g tt te vs (items.drop i) acc e2 (fun acc e2 => Q (.own acc) (restE vs e1 e2)), ⟨_, κ1, wipeE vs e1, [], [], x2, I2.wipe, rfl, Nat.zero_le _, upd_same, .nil, kD1, (fun j hj => I1.fresh hD j hj.unwipe), Nat.le_refl _, q1⟩, ?_⟩
  rintro i m H2 ⟨κ2, e2, acc, vacc, y2, J2, rfl, hi, hD2, ra, kD, oD, la, q2⟩
  obtain ⟨s1, s2⟩ := src Γ rfl rfl _ κ2 H2 e2 i J2 y2
  by_cases hlt : i < items.length
  · have hd : items.drop i = items[i] :: items.drop (i + 1) := List.drop_eq_getElem_cons hlt
    rw [hd] at q2
    have P2 := J2.prot hD2 kD oD
    have gk : GK (Y.blk scope) (Γ.prot D (.lst vacc)) := ⟨hK.k, hK.c, hK.f, fun _ _ _ _ _ _ _ _ z _ _ => False.elim z⟩
    obtain ⟨go, _⟩ := s1 items[i] (List.getElem?_eq_getElem hlt)
    refine .inr ⟨go, fun H' => ∃ κ' e' acc' vacc', Ext κ1 H1 κ' H' ∧ Rl Γ κ' e' (L2.wipe σ vs) H' ∧ H' D = some (.lst vacc') ∧ RepL Γ.K Γ.cls κ' H' vacc' acc' ∧ κ' D = none ∧ (∀ j, ¬ OwnS e' (L2.wipe σ vs) j D) ∧ acc'.length ≤ i + 1 ∧
      lcR g tt te vs (items.drop (i + 1)) acc' e' (fun acc e2 => Q (.own acc) (restE vs e1 e2)), fun H' ⟨κ', e', acc', vacc', z1, z2, z3, z4, z5, z6, z7, z8⟩ => ⟨items.length - (i + 1), by omega, κ', e', acc', vacc', z1, z2, rfl, hlt, z3, z4, z5, z6, z7, z8⟩, fun w H' yl => ?_⟩
    -- the item, with the new list standing still
    obtain ⟨s1', _⟩ := src (Γ.prot D (.lst vacc)) rfl rfl _ κ2 H2 e2 i P2 y2
    obtain ⟨_, yy⟩ := s1' items[i] (List.getElem?_eq_getElem hlt)
    obtain ⟨κ3, y3, P3, r3⟩ := yy w H' yl
    refine fg (Γ.prot D (.lst vacc)) _ κ3 H' e2 w _ _ _ gk P3 r3 q2 fun σ4 e4 o4 P4 q4 => ?_
    refine ⟨wipe_off o4, ft (Γ.prot D (.lst vacc)) σ4 κ3 H' e4 _ _ gk rfl P4 q4 fun bb κ5 H5 e5 y5 P5 q5 => ?_⟩
    have w4 : L2.wipe σ4 vs = L2.wipe σ vs := wipe_off o4
    cases bb with
    | true =>
      rw [if_pos rfl] at q5 ⊢
      refine fe (Γ.prot D (.lst vacc)) σ4 κ5 H5 e5 _ _ gk rfl P5 q5 fun u κ6 H6 r6 e6 y6 P6 h6 q6 => ?_
      refine fz_ok P6 h6 q6 fun κ7 d e7 y7 P7 r7 q7 => ?_
      obtain ⟨J7, k7, hD7, o7⟩ := P7.unprot nk hD0
      have y27 : Ext κ2 H2 κ7 H6 := ((y3.trans y5).trans y6).trans y7
      refine ⟨vacc, hD7, Nat.lt_of_le_of_lt (by rw [ra.length]; exact la) (Nat.lt_of_lt_of_le hlt hz), ?_⟩
      have y8 : Ext κ7 H6 κ7 (upd H6 D (.lst (vacc ++ [u]))) := Ext.upd k7
      have J8 : Rl Γ κ7 e7 σ4 (upd H6 D (.lst (vacc ++ [u]))) := J7.step (st' := e7.st) y8 (fun j c hj => ⟨by
        obtain ⟨c', _, hc⟩ := J7.ownS hj
        exact hc.facts.1, upd_ne fun z => o7 j (z ▸ hj)⟩) (J7.gh.upd k7 hD0)
      have J9 : Rl Γ κ7 (wipeE vs e7) (L2.wipe σ vs) (upd H6 D (.lst (vacc ++ [u]))) := by rw [← w4]; exact J8.wipe
      refine ⟨κ7, wipeE vs e7, acc ++ [d], vacc ++ [u], y2.trans (y27.trans y8), J9, upd_same, (ra.mono (y27.trans y8)).append (.cons (r7.mono y8) .nil), k7, fun j hj => ?_, by simp only [List.length_append, List.length_singleton]; omega, q7⟩
      rw [← w4] at hj
      exact o7 j hj.unwipe
    | false =>
      rw [if_neg Bool.false_ne_true] at q5 ⊢
      obtain ⟨J7, k7, hD7, o7⟩ := P5.unprot nk hD0
      have y27 : Ext κ2 H2 κ5 H5 := y3.trans y5
      refine ⟨κ5, wipeE vs e5, acc, vacc, y2.trans y27, by rw [← w4]; exact J7.wipe, hD7, ra.mono y27, k7, fun j hj => ?_, by omega, q5⟩
      rw [← w4] at hj
      exact o7 j hj.unwipe
  · have e : i = items.length := by omega
    subst e
    rw [List.drop_length] at q2
    refine .inl ⟨s2 rfl, ?_⟩
    have J3 : Rl Γ κ2 (restE vs e1 e2) σ H2 := Rl.rest I1 hp y2 J2
    refine k (.ref D) κ2 H2 (.own acc) (restE vs e1 e2) (x1.trans y2) J3 ⟨D, rfl, ⟨kD, hD0, vacc, hD2, by rw [ra.length]; exact Nat.le_trans la hz, ra⟩, fun j hj => ?_⟩ q2
    exact oD j (hj.unrest hp)
end
end Pu
set_option maxRecDepth 100000
set_option maxHeartbeats 400000
/-! defs that may ask for a text of a list: no guard stands round the call -/
namespace Pu
open PySem L2 PySem.Spec PyProof.Rows
/-- a def's promise where no guard stands -/
structure FnG (P : Program) (w : World) (K : PySem.W.Frag) (mg : Str → Option Value) (base : Heap) (CX : CXT) (k : Nat) (f : Addr) (fd : FuncData) (ps : List Str) (sp : Sp) : Prop where
  many : ∀ us H Q E, sp us H Q E → us.length = ps.length
  go : ∀ (A : Around) (out : List Env) (t : Shared) (H : Hp) (ar : Args) (gs : List Value) (us : List V) (Q : VK) (E : XK), Room k A → A.guards = some [] → Env0 P w K mg base A out t H → BindsTo t fd ar (ps.zip gs) →
    Vals us gs → sp us H Q E → codeAny (model P w) A (.call (.ref f) ar) (CR CX out P w H t Q E) t
section
variable {P : Program} {w : World} {K : PySem.W.Frag} {mg : Str → Option Value} {base : Heap} {CX : CXT} {j k : Nat} {f : Addr} {fd : FuncData} {ps : List Str} {sp sp' : Sp}
theorem FnG.of (F : FnOk P w K mg base CX k f fd ps sp) : FnG P w K mg base CX k f fd ps sp :=
  ⟨F.len, fun A out t H ar gs us Q E r _ => F.run A out t H ar gs us Q E r⟩
theorem FnG.mono (F : FnG P w K mg base CX j f fd ps sp) (h : j ≤ k) : FnG P w K mg base CX k f fd ps sp :=
  ⟨F.many, fun A out t H ar gs us Q E r => F.go A out t H ar gs us Q E (r.mono h)⟩
theorem FnG.imp (F : FnG P w K mg base CX k f fd ps sp) (h : ∀ us H Q E, sp' us H Q E → sp us H Q E) : FnG P w K mg base CX k f fd ps sp' :=
  ⟨fun us H Q E z => F.many us H Q E (h _ _ _ _ z), fun A out t H ar gs us Q E r hg e b v z => F.go A out t H ar gs us Q E r hg e b v (h _ _ _ _ z)⟩
end
section
variable {X : Cx} {CX : CXT} {k : Nat} {f : Addr} {fd : FuncData} {ps : List Str} {sp : Sp} {dvs : List V} {ds : List Value} {E : XK} {x : Str} {p pos : Pos} {e : Expr} {es : List Expr} {t : TA}
theorem goG {pins : List (Addr × Obj)} {σ : L2.St} {H : Hp} {s : Shared} {Q : VK} {gs : List Value} {us : List V} (F : FnG X.prog X.w X.K X.mg X.base CX k f fd ps sp) (hr : Room k X.A) (hgd : X.A.guards = some []) (hb : Binds X.K fd ps ds) (hd : Vals dvs ds) (hx : Passes CX X E)
    (I : Inv X pins σ H s) (r : Vals us gs) (h : sp (us ++ dvs) H Q E) : wpAny (model X.prog X.w) X.A (call (.ref f) gs) (EP X pins σ Q) X.xe s := by
  have rr := r.append hd
  have hl : (gs ++ ds).length = ps.length := rr.length.symm.trans (F.many _ _ _ _ h)
  have body := F.go X.A X.stack s H ⟨gs, []⟩ _ _ Q E hr hgd I.env0 (hb s gs I.kIn hl) rr h
  refine wpAny_call (codeAny_mono body fun res s' z => ?_)
  match res, z with
  | .error e, z => exact hx pins σ H s e s' I z
  | .ok (.ret u), z => exact I.after z
theorem pe_callG (F : FnG X.prog X.w X.K X.mg X.base CX k f fd ps sp) (hr : Room k X.A) (hgd : X.A.guards = some []) (hg : Gl X x) (hm : X.mg x = some (.ref f)) (hk : PySem.W.keepIn X.K (.ref f) = true) (hb : Binds X.K fd ps ds) (hd : Vals dvs ds) (hx : Passes CX X E)
    (ha : PA X (e :: es) t) (hdb : (x == ("__debug__" : Str)) = false := by decide) (he : starEach (e :: es) X.env = (false, eval e X.env) :: starEach es X.env := by rfl) (hpl : (backTo pos (starEach es X.env)).any (·.1) = false := by rfl) :
    PE X (.Call (.Name x p) (e :: es) [] pos) (tCall sp dvs E t) := by
  constructor
  intro pins s σ H Q I z
  refine wpAny_Call_Name_kw (ld_glob I hg hm (PySem.W.callWith_K (h₀ := X.base) I.ok.mod.kin hk ?_ he hpl) hdb)
  exact thn (ha.run pos pins s σ H _ I z) fun gs s1 ⟨us, H1, J, r, q⟩ => ⟨J.kIn, goG F hr hgd hb hd hx J r q⟩
theorem pe_call0G (F : FnG X.prog X.w X.K X.mg X.base CX k f fd ps sp) (hr : Room k X.A) (hgd : X.A.guards = some []) (hg : Gl X x) (hm : X.mg x = some (.ref f)) (hk : PySem.W.keepIn X.K (.ref f) = true) (hb : Binds X.K fd ps ds) (hd : Vals dvs ds) (hx : Passes CX X E)
    (hdb : (x == ("__debug__" : Str)) = false := by decide) : PE X (.Call (.Name x p) [] [] pos) (tCall sp dvs E L2.tNil) := by
  constructor
  intro pins s σ H Q I z
  exact wpAny_Call_Name_kw (ld_glob I hg hm (PySem.W.callWith_K0 I.kIn hk (goG (gs := []) F hr hgd hb hd hx I .nil z)) hdb)
end
section
variable {P : Program} {w : World} {K : PySem.W.Frag} {mg : Str → Option Value} {base : Heap}
/-- a def, from its body -/
theorem fnG_of {CX : CXT} {k : Nat} {x qual : Str} {st : Stmt} {f : Addr} {fd : FuncData} {N ps : List Str} {sp : Sp} (F : Fun K x qual st f fd) (S : FnScope N ps (defScope st)) (many : ∀ us H Q E, sp us H Q E → us.length = ps.length)
    (hbody : ∀ (cdv : Value) (A : Around) (out : List Env) (t : Shared) (H : Hp) (us : List V) (Q : VK) (E : XK), Room k (A.deeper (envOfC qual (defScope st) t.heap.objs.size f cdv)) → A.guards = some [] → sp us H Q E →
      ∃ r, PSs (cxOf CX P w K mg base N qual (defScope st) f cdv A out t H E) (defBody st) r ∧ r { nx := fun _ H' => Q .non H', rt := Q } (L2.start N us) H) : FnG P w K mg base CX (k + 1) f fd ps sp := by
  obtain ⟨oc, od, kV, doc, pm, an, cdv, ct, osl, hfd, look, code⟩ := F.ex
  subst hfd
  constructor
  · exact many
  intro A out t H ar gs us Q E room hgd e0 bind vals want
  have kept : ∀ b o, base.get? b = some o → t.heap.get? b = some o := fun b o z => (e0.bs b o z).1
  have inK : K.In t.heap := e0.mod.kin.keeps kept
  have par : ∀ y ∈ ps.zip gs, (defScope st).names.lookup y.1 = some .local ∨ ((defScope st).names.lookup y.1 = some .cell ∧ ((cellsFrom (t.heap.objs.size + 1) (defScope st).names []).lookup y.1).isSome = true) := by
    intro y hy
    have hy1 : y.1 ∈ ps := by
      obtain ⟨n, v⟩ := y
      exact (List.of_mem_zip hy).1
    exact (S.par y.1 hy1).imp id fun z => ⟨z, PySem.W.cellsFrom_some _ _ _ (.inl z)⟩
  refine codeAny_call_function room.depth (inK _ _ look) rfl S.co S.gen rfl (PySem.W.codeRec_of inK code) (bind _ _ _ _ ?_)
  refine wpAny_newFunctionEnv_cells S.kind par fun env heq t1 x => ?_
  subst heq
  refine ⟨(e0.mod.nolimit.keeps kept).keeps x.toInCall.keep, codeAny_func ?_⟩
  obtain ⟨r, hr, hq⟩ := hbody cdv A out t H us Q E (room.deeper _) hgd want
  have I0 := inv_start (CX := CX) (E := E) S room.hd e0 (many _ _ _ _ want) vals x
  refine wpAny_mono (hr.run [] t1 (L2.start N us) H _ I0 hq) (fun fl t2 z => ?_) fun _ _ z => z
  have fin : ∀ {σ' : L2.St} {H' : Hp} {v : V} {u : Value}, Inv (cxOf CX P w K mg base N qual (defScope st) f cdv A out t H E) [] σ' H' t2 → RelV v u → Q v H' → CE out P w H t Q u t2 := fun {σ' H' v u} J rv q => ⟨v, H', J.os, J.bare, J.base, J.hok, rv, q⟩
  cases fl with
  | ret u => obtain ⟨v, σ', H', J, rv, q⟩ := z; exact fin J rv q
  | next => obtain ⟨σ', H', J, q⟩ := z; exact fin (v := V.non) (u := Value.none) J rfl q
  | brk => obtain ⟨σ', H', J, q⟩ := z; exact False.elim q
  | cont => obtain ⟨σ', H', J, q⟩ := z; exact False.elim q
end
end Pu
set_option maxRecDepth 100000
set_option maxHeartbeats 1000000
namespace Pu
open PySem L2 PySem.Spec PyProof.Rows
/-- what stands behind the top: the script alone may be tracked -/
theorem lawG_at {P : Program} {w : World} {K : PySem.W.Frag} {mg mb : Str → Option Value} {k : Nat} {fa a : Addr} {fd : FuncData} {x : Str} {sp : Sp} {s0 : Shared} {us : List Value} {H : Hp}
    (inK : K.In s0.heap) (ns1 : s0.heap.Ns mainGlobals mg) (ns2 : s0.heap.Ns builtinsNs mb) (boot : ∀ y : Str, y ≠ "__name__" → mb y = bootBuiltins y) (lim : s0.heap.NoLimit) (gen : s0.gens = #[])
    (obj : s0.heap.get? a = some { cls := .type "list", data := .seq us.toArray }) (room : Room k callerA)
    (F : ∀ base : Heap, K.In base → base.Ns mainGlobals mg → FnG P w K mg base CX0 k fa fd [x] sp) (bind : ∀ (s : Shared) (u : Value), BindsTo s fd ⟨[u], []⟩ [(x, u)])
    (only : Only H) (want : sp [.ref a] H (fun v _ => v = .bl true) fun _ _ _ => False) (ok : HOk P w H s0.heap) (one : ∀ b, H b ≠ none → b = a) (out : H a ≠ none → K.lookup a = none) :
    codeAny (model P w) callerA (.call (.ref fa) ⟨[.ref a], []⟩) (fun r s' => r = .ok (.ret (.bool true)) ∧ OldK s0.heap s'.heap ∧ s'.os = s0.os ∧ AllBare s'.gens) s0 := by
  have hid : ∀ {b : Addr} {o : Obj}, s0.heap.get? b = some o → H b = none → (hidT s0.heap H).get? b = some o := fun z n => hidT_get z n
  have nodict : ∀ {b : Addr} {o : Obj} {es : Array DictEntry} {ep : Nat}, s0.heap.get? b = some o → o.data = .dict es ep → H b = none := by
    intro b o es ep z d
    cases q : H b with
    | none => rfl
    | some u =>
      have hb := one b (by rw [q]; exact fun y => nomatch y)
      rw [hb, obj] at z
      cases z
      cases (show Data.seq us.toArray _ = Data.dict es ep from d)
  have ns : ∀ {b : Addr} {m : Str → Option Value}, s0.heap.Ns b m → (hidT s0.heap H).Ns b m := by
    rintro b m ⟨o, es, ep, z, d, r⟩
    exact ⟨o, es, ep, hid z (nodict z d), d, r⟩
  have inB : K.In (hidT s0.heap H) := by
    intro b o z
    refine hid (inK b o z) ?_
    cases q : H b with
    | none => rfl
    | some u =>
      have hb := one b (by rw [q]; exact fun y => nomatch y)
      subst hb
      rw [out (by rw [q]; exact fun y => nomatch y)] at z
      cases z
  obtain ⟨mc, l1, l2⟩ := lim
  have env : Env0 P w K mg (hidT s0.heap H) callerA [] s0 H :=
    ⟨rfl, ⟨inB, ns ns1, ⟨mb, ns ns2, boot⟩, ⟨mc, ns l1, l2⟩⟩, fun b o z => of_hidT z, Nat.le_of_eq (hidT_size _ _), trivial, fun b hb => (List.not_mem_nil hb).elim, ok, .of_eq gen⟩
  have run := (F _ inB (ns ns1)).go callerA [] s0 H ⟨[.ref a], []⟩ [.ref a] [.ref a] _ _ room rfl env (bind s0 (.ref a)) (.cons rfl .nil) want
  refine codeAny_mono run fun r s' z => ?_
  cases r with
  | error e => exact False.elim z
  | ok fl =>
    cases fl with
    | next => exact False.elim z
    | brk => exact False.elim z
    | cont => exact False.elim z
    | ret u =>
      obtain ⟨v, H', os, bare, un, ok', rel, q⟩ := z
      have q : v = .bl true := q
      subst q
      have rel : u = Value.bool true := rel
      subst rel
      refine ⟨rfl, OldK.of_keep ?_, os, bare⟩
      intro b o z
      cases q : H b with
      | none => exact un.keep b o z q (fun y => List.not_mem_nil y) (fun y => List.not_mem_nil y)
      | some u =>
        rcases only b with y | ⟨ob, xs, y⟩
        · rw [q] at y; cases y
        · have y1 := (ok b _ y).1
          have y2 := (ok' b _ (un.frzs b ob _ y)).1
          rw [z] at y1
          cases y1
          exact y2
theorem walkG {l : PySem.W.OpenLaw} {q : Program} {loose : List Str} {XP : (Str → Option Value) → Heap → Prop} {YP : World → Heap → Prop} {d : DefRec} {K : Params → PySem.W.Frag} {k : Nat} {sp : PySem.W.Frag → Sp} (room : Room k callerA) (most : l.most = some 63) (nodef : d.params.defaults = [])
    (hY : ∀ (w : World) (h : Heap), YP w h → (K w.params).In h)
    (F : ∀ (w : World) (mg : Str → Option Value) (fa : Addr) (h : Heap), (K w.params).In h → h.Ns mainGlobals mg → mg d.name = some (.ref fa) →
      ∃ fd : FuncData, (∀ (s : Shared) (u : Value), BindsTo s fd ⟨[u], []⟩ [("_law_script", u)]) ∧ ∀ base : Heap, (K w.params).In base → base.Ns mainGlobals mg → FnG l.prog w (K w.params) mg base CX0 k fa fd ["_law_script"] (sp (K w.params)))
    (hsp : ∀ (w : World) (H : Hp) (a : Addr) (ns : List Int), ns.length ≤ 63 → SqL (K w.params) H a (ns.map V.int) → sp (K w.params) [.ref a] H (fun v _ => v = .bl true) fun _ _ _ => False) :
    PySem.W.WalkO q loose XP YP l.row.toRowW d [] (fun f vs => PySem.call f vs) := by
  refine Att.attach_call most nodef ?_
  intro w s1 s0 mg mb fa o pm cd doc a us ns G Y ho hd hcd hmg obj areI len gen
  have inK := hY w _ Y
  obtain ⟨fd, bind, F⟩ := F w mg fa _ inK G.T.g hmg
  have lens := areI.length
  have vals := vals_ints areI
  have short : ns.length ≤ sizeLine := Nat.le_trans len (by decide)
  have go := fun (H : Hp) (o1 : Only H) (o2 : SqL (K w.params) H a (ns.map V.int)) => lawG_at (H := H) inK G.T.g G.T.b G.T.builtins G.T.nolimit gen obj room F bind o1 (hsp w H a ns len o2)
  cases hk : (K w.params).lookup a with
  | some o' =>
    have z := inK a o' hk
    rw [obj] at z
    cases z
    refine go (fun _ => none) (fun _ => .inl rfl) (.inr ⟨_, us.toArray, _, hk, rfl, rfl, rfl, ?_, by simpa using vals⟩) (fun b u z => nomatch z) (fun b z => absurd rfl z) fun z => absurd rfl z
    rw [List.size_toArray, lens]
    exact short
  | none =>
    have at_ : ∀ b, b ≠ a → (if b = a then some (HO.frz { cls := .type "list", data := .seq us.toArray } (.lst (ns.map V.int))) else none) = none := fun b z => if_neg z
    refine go (fun b => if b = a then some (.frz { cls := .type "list", data := .seq us.toArray } (.lst (ns.map V.int))) else none) (fun b => ?_) (.inl (.inr ⟨_, if_pos rfl⟩)) (fun b u z => ?_) (fun b z => ?_) fun _ => hk
    · by_cases y : b = a
      · right; exact ⟨_, _, if_pos y⟩
      · left; exact at_ b y
    · by_cases y : b = a
      · subst y
        cases (if_pos rfl).symm.trans z
        exact ⟨obj, by rw [List.length_map]; exact short, us, _, vals, obj⟩
      · cases (at_ b y).symm.trans z
    · exact Decidable.byContradiction fun y => z (at_ b y)
end Pu
set_option maxRecDepth 100000
set_option maxHeartbeats 2000000
/-! reversed(text), list(text) -/
namespace PuE
open PySem PySem.Spec PyProof.Rows L2 RT PySem.W
theorem norev_str : typeLookup (.type "str") "__reversed__" = pure none := by rw [typeLookup_type, builtinLookup_eq_fast]; kernel_rfl
theorem get_str : typeLookup (.type "str") "__getitem__" = pure (some (.builtin "str.__getitem__")) := by rw [typeLookup_type, builtinLookup_eq_fast]; kernel_rfl
theorem sub_str_dict : isSubtype (.type "str") (.type "dict") = pure false := by rw [isSubtype_type]; kernel_rfl
def rsObj (x : Str) (t : Tok) (i : Int) : Obj := { cls := .type "reversed", data := .fields #[.str x t, rawInt i] }
def IsRs (h : Heap) (a : Addr) (x : Str) (t : Tok) (i : Int) : Prop := ∃ o, h.get? a = some o ∧ o.cls = .type "reversed" ∧ o.data = .fields #[.str x t, rawInt i]
theorem IsRs.at {h h' : Heap} {a : Addr} {x : Str} {t : Tok} {i : Int} (y : IsRs h a x t i) (e : ∀ o, h.get? a = some o → h'.get? a = some o) : IsRs h' a x t i := let ⟨o, ho, r⟩ := y; ⟨o, e _ ho, r⟩
section
variable {prog : Program} {w : World} {A : Around} {E : Value → Shared → Prop} {s : Shared}
theorem IsRs.typeIs {a : Addr} {x : Str} {t : Tok} {i : Int} (y : IsRs s.heap a x t i) : s.TypeIs (.ref a) "reversed" := let ⟨o, ho, hc, _⟩ := y; ⟨o, ho, hc⟩
theorem code_reversed_str {x : Str} {t : Tok} {Q₁ : Value → Shared → Prop} (hfit : ¬ (x.length : Int) ≥ 2 ^ 63)
    (h : Q₁ (.ref s.heap.objs.size) { s with heap := s.heap.push (rsObj x t ((x.length : Int) - 1)), toks := s.toks + 1 + 1 }) :
    codeAny (model prog w) A (.call (.builtin "reversed.__new__") ⟨[.type "reversed", .str x t], []⟩) (wants Q₁ E) s := by
  have hT : s.TypeIs (.str x t) "str" := typeIs_str s x t
  refine codeAny_of_tree ?_
  show wpAny _ A.in1 (do checkBuiltinCall "reversed.__new__" ⟨[.type "reversed", .str x t], []⟩; again (.builtin "reversed.__new__" ⟨[.type "reversed", .str x t], []⟩)) _ _ s
  refine wpAny_bind (wpAny_of_eq (F.newCall_reversed_1 _) (wpAny_pure ⟨plainId_quiet F.plain_reversed_new _, codeAny_builtin F.entry_reversed_new ?_⟩))
  rw [Around.under_plainId F.plain_reversed_new _]
  unfold Builtin.«reversed.__new__»
  refine wpAny_bind (wpAny_of_eq (newClass_reversed _) ?_)
  try dsimp only
  refine wpAny_bind (wpAny_of_eq (a := ()) (by first | rfl | kernel_rfl) ?_)
  try dsimp only
  refine wpAny_bind (wpAny_of_eq (a := ()) (by first | rfl | kernel_rfl) ?_)
  try dsimp only
  refine wpAny_bind (wpAny_specialOf hT norev_str ?_)
  try dsimp only
  refine wpAny_bind ?_
  wp_delta
  refine wpAny_bind (wpAny_isInstance (T := "str") (U := "dict") (b := false) hT sub_str_dict ?_)
  try dsimp only
  try rw [if_neg Bool.false_ne_true]
  try dsimp only
  refine wpAny_bind (wpAny_specialOf hT get_str ?_)
  try dsimp only
  try rw [if_pos (by decide +kernel)]
  refine wpAny_pure ?_
  try dsimp only
  try rw [if_neg (by decide)]
  try dsimp only
  refine wpAny_bind (PyProof.Rows.len_str hfit ?_)
  refine wpAny_bind (wpAny_of_eq (a := some ((x.length : Nat) : Int)) rfl ?_)
  try dsimp only
  refine wpAny_bind ?_
  show wpAny _ _ (newObj (.type "reversed") (.fields #[.str x t, rawInt ((x.length : Int) - 1)])) _ _ _
  refine wpAny_newObj_type ?_
  exact wpAny_pure h
theorem call_reversed_str {x : Str} {t : Tok} {Q : Value → Shared → Prop} (hfit : ¬ (x.length : Int) ≥ 2 ^ 63)
    (h : Q (.ref s.heap.objs.size) { s with heap := s.heap.push (rsObj x t ((x.length : Int) - 1)), toks := s.toks + 1 + 1 }) : wpAny (model prog w) A (call (.type "reversed") [.str x t]) Q E s := by
  refine callType_codes (Q₁ := fun obj s₁ => s₁.TypeIs obj "reversed" ∧ Q obj s₁) called_rt (F.typeCall_reversed_1 _) F.entry_object_init
    (code_reversed_str (A := A.in1) hfit ⟨⟨_, Heap.get?_push_size _ rfl, rfl⟩, h⟩) fun obj s₁ h₁ => ?_
  exact ⟨h₁.1, F.args_object_init_2 obj _, object_init_meets called_rt.init.lookup called_rt.made (by decide) prog w A.in1 _ s₁ ⟨h₁.1, rfl, h₁.2⟩⟩
theorem next_rs_item {it : Addr} {y : Str} {t : Tok} {i c : Nat} {Q : Option Value → Shared → Prop} (hit : IsRs s.heap it y t (i : Int)) (hx : y.cps[i]? = some c) (hsz : y.length ≤ sizeLine)
    (hQ : ∀ h' u tk, IsRs h' it y t ((i : Int) - 1) → Heap.SameBut it s.heap h' → Q (some (.str ⟨#[c]⟩ u)) { s with heap := h', toks := tk }) : wpAny (model prog w) A (pyNext (.ref it)) Q E s := by
  obtain ⟨o, ho, hc, hd⟩ := id hit
  have hi : i < y.length := (Array.getElem?_eq_some_iff.mp hx).1
  have hT : s.TypeIs (.str y t) "str" := typeIs_str s y t
  rw [sizeLine_eq] at hsz
  unfold pyNext
  refine wpAny_bind (wpAny_attempt (wpAny_callSpecial?_slot (name := Str.ofString "__next__") hit.typeIs slot_rt_next
    (wpAny_call_entry slot_rt_next hit.typeIs entry_rt_next ?_ (args_rt_next _))))
  unfold Builtin.«reversed.__next__»
  refine wpAny_bind (wpAny_of_eq (a := (Value.ref it, [])) rfl ?_)
  try dsimp only
  refine wpAny_bind (wpAny_field ho hd (x := .str y t) rfl ?_)
  try dsimp only
  refine wpAny_bind (wpAny_field ho hd (x := rawInt (i : Int)) rfl ?_)
  show wpAny _ _ (if (i : Int) < 0 then _ else _) _ _ s
  rw [if_neg (by omega)]
  try dsimp only
  refine wpAny_bind (wpAny_specialOf hT get_str ?_)
  try dsimp only
  try rw [if_neg (by decide)]
  try dsimp only
  refine wpAny_bind (wpAny_mkInt ?_)
  refine wpAny_bind (wpAny_attempt ?_)
  have fin : (seqIndex? (i : Int) y.length).bind (y.cps[·]?) = some c := by rw [seqIndex_of (by omega) (by omega)]; simpa using hx
  refine PyProof.Rows.getItem_str (s := { s with toks := s.toks + 1 }) (by
    have e1 : decide ((i : Int) < -(2 ^ 63 : Int)) = false := decide_eq_false (by omega)
    have e2 : decide ((i : Int) ≥ 2 ^ 63) = false := decide_eq_false (by omega)
    rw [e1, e2, Bool.or_false]) fin ?_
  try dsimp only
  refine wpAny_bind (wpAny_field (s := { s with toks := s.toks + 1 + 1 }) ho hd (x := rawInt (i : Int)) rfl ?_)
  try dsimp only
  refine wpAny_bind (wpAny_setField (s := { s with toks := s.toks + 1 + 1 }) ho hd (by simp) ?_)
  first
  | refine wpAny_pure ⟨_, rfl, wpAny_pure (hQ _ _ _ ?_ (Heap.SameBut.update ..))⟩
  | refine wpAny_bind (wpAny_pure (wpAny_pure ⟨_, rfl, wpAny_pure (hQ _ _ _ ?_ (Heap.SameBut.update ..))⟩))
  exact ⟨_, Heap.get?_update_self _ ho (Obj.isFreed_of_fields (Obj.data_mapFields hd _)), (Obj.cls_mapFields ..).trans hc, by
    rw [Obj.data_mapFields hd]; simp⟩
theorem next_rs_end {it : Addr} {x : Str} {t : Tok} {Q : Option Value → Shared → Prop} (hh : A.handled = none) (hit : IsRs s.heap it x t (-1))
    (hQ : ∀ h', Heap.ExtBut it s.heap h' → Q none { s with heap := h' }) : wpAny (model prog w) A (pyNext (.ref it)) Q E s := by
  obtain ⟨o, ho, hc, hd⟩ := id hit
  unfold pyNext
  refine wpAny_bind (wpAny_attempt (wpAny_callSpecial?_slot (name := Str.ofString "__next__") hit.typeIs slot_rt_next
    (wpAny_call_entry slot_rt_next hit.typeIs entry_rt_next ?_ (args_rt_next _))))
  unfold Builtin.«reversed.__next__»
  refine wpAny_bind (wpAny_of_eq (a := (Value.ref it, [])) rfl ?_)
  try dsimp only
  refine wpAny_bind (wpAny_field ho hd (x := .str x t) rfl ?_)
  try dsimp only
  refine wpAny_bind (wpAny_field ho hd (x := rawInt (-1)) rfl ?_)
  show wpAny _ _ (if (-1 : Int) < 0 then _ else _) _ _ s
  rw [if_pos (by decide)]
  try dsimp only
  refine wpAny_bind (wpAny_rule ?_)
  refine wpAny_bind ?_
  wp_delta
  refine wpAny_bind (wpAny_setField ho hd (by simp) ?_)
  have ho2 := Heap.get?_update_self (Obj.mapFields (·.setIfInBounds 1 (rawInt (-1)))) ho (Obj.isFreed_of_fields (Obj.data_mapFields hd _))
  refine wpAny_setField (s := { s with heap := s.heap.update it (Obj.mapFields (·.setIfInBounds 1 (rawInt (-1)))) }) ho2 (Obj.data_mapFields hd _) (by simp) ?_
  try dsimp only
  first
  | show wpAny _ _ (newExc (.type "StopIteration") [] >>= _) _ _ _
  | (refine wpAny_bind ?_; show wpAny _ _ (newExc (.type "StopIteration") [] >>= _) _ _ _)
  | (refine wpAny_bind ?_; wp_delta; show wpAny _ _ (newExc (.type "StopIteration") [] >>= _) _ _ _)
  refine wpAny_bind ?_
  simp only [newExc, newTuple]
  refine wpAny_bind (wpAny_newObj_type ?_ (by size_fits))
  refine wpAny_bind (m := firstArgMember _ _) (wpAny_of_eq (a := Value.none) (by first | rfl | (simp only [firstArgMember]; rfl)) ?_)
  refine wpAny_newObj_type ?_ (by size_fits)
  simp only [raiseNew]
  refine wpAny_bind (wpAny_handled ?_)
  first | rw [show A.in1.handled = none from hh] | rw [hh]
  refine wpAny_bind (wpAny_pure (wpAny_throw ?_))
  refine wpAny_bind (wpAny_isInstance (T := "StopIteration") (b := true) ⟨_, Heap.get?_push_size _ rfl, rfl⟩ isSubtype_stop ?_)
  refine wpAny_pure (hQ _ ?_)
  refine ((?_ : Heap.ExtBut it s.heap _).push _).push _
  exact fun b ob hb e => (Heap.get?_update_other _ _ (Ne.symm hb)).trans ((Heap.get?_update_other _ _ (Ne.symm hb)).trans e)
theorem iter_rs {it : Addr} {x : Str} {t : Tok} {i : Int} {Q : Value → Shared → Prop} (hit : IsRs s.heap it x t i) (h : Q (.ref it) s) : wpAny (model prog w) A (pyIter (.ref it)) Q E s := by
  refine wpAny_pyIter_slot hit.typeIs slot_rt_iter (wpAny_call_entry slot_rt_iter hit.typeIs entry_rt_iter ?_ (args_rt_iter _))
  show wpAny _ _ (ret (.ref it)) _ _ s
  exact wpAny_pure ⟨_, rfl, "reversed", _, hit.typeIs, slot_rt_next.lookup, h⟩

/-! ### list(text) -/
theorem hint_str {x : Str} {t : Tok} {Q : Bool → Shared → Prop} (h : Q false s) : wpAny (model prog w) A (Builtin.List.listLengthHint (.str x t)) Q E s := by
  have hT : s.TypeIs (.str x t) "str" := typeIs_str s x t
  unfold Builtin.List.listLengthHint
  refine wpAny_bind (wpAny_specialOf hT PySem.F.slot_str_len.lookup ?_)
  generalize hid : ("str.__len__" : String) = id0
  wp_delta
  rw [show splitId id0 = some ("str", "__len__") from by subst hid; decide +kernel]
  subst hid
  refine wpAny_bind (wpAny_isInstance (T := "str") (b := true) hT (by rw [isSubtype_type]; kernel_rfl) ?_)
  refine wpAny_ite_split (fun hab => absurd hab (by decide)) (fun _ => ?_)
  refine wpAny_ite_split (fun _ => ?_) (fun hab => absurd (by decide +kernel) hab)
  refine wpAny_bind (wpAny_typeOf hT ?_)
  exact wpAny_pure h
theorem ks_extend {R : Result → Shared → Prop} {x : Str} {t : Tok} (hh : A.handled = none) (S : Addr) (res : Value) (c₀ : Nat) (hS : s.heap.get? S = some { cls := .type "list", data := .seq #[] c₀ })
    (hR : ∀ h' tk acc' c', (∀ b o, b ≠ S → s.heap.get? b = some o → h'.get? b = some o) → h'.get? S = some { cls := .type "list", dict := none, data := .seq acc' c', slots := #[] } → ItemsOf (SignAt x) acc' x.cps.size → R (.ok (.ret res)) { s with heap := h', toks := tk }) (hn : x.cps.size ≤ sizeLine) :
    wpAny (model prog w) A.in1 (Builtin.List.listExtendWith (.ref S) (.str x t) res)
      (fun fin s' => match fin with | .done f => R (.ok f) s' | .again c' => c'.quiet = true ∧ codeAny (model prog w) A c' R s') (fun e s' => R (.error e) s') s := by
  have hSI : S ≠ s.heap.objs.size := Nat.ne_of_lt (Heap.lt_size hS)
  have hSf : S ∉ [s.heap.objs.size] := by simp only [List.mem_cons, List.not_mem_nil, or_false]; exact hSI
  unfold Builtin.List.listExtendWith
  refine wpAny_bind (wpAny_typeOf (T := "str") (typeIs_str s x t) ?_)
  have h1 : Builtin.List.listSameRef (.ref S) (.str x t) = false := by simp [Builtin.List.listSameRef]
  rw [if_neg (by rw [h1]; decide)]
  refine wpAny_bind (wpAny_pyIter_str fun oI St hW st => ?_)
  have W := hW A.in1 hh
  refine wpAny_bind (wpAny_holding (hint_str ?_))
  have hS₁ := Heap.get?_push_of_some oI hS
  have key : ∀ (h : Heap) (c₁ tk : Nat), St 0 h → (∀ b o, b ≠ S → s.heap.get? b = some o → h.get? b = some o) →
      h.get? S = some { cls := .type "list", data := .seq #[] c₁ } → codeAny (model prog w) A (.builtin "list.extend.loop" ⟨[.ref S, .ref s.heap.objs.size, res], []⟩) R { s with heap := h, toks := tk } := by
    intro h c₁ tk hst hk hS₁
    refine codeAny_extend_loopS W.toS hn S hSf res x.cps.size 0 _ #[] c₁ rfl (Nat.zero_le _) hst hS₁ (ItemsOf.nil _) fun s' acc' c' hm hS' hacc => ?_
    rw [Moved.eq_with hm]
    refine hR s'.heap s'.toks acc' c' (fun b o hb e => hm.heap b o (fun hmem => ?_) (hk b o hb e)) hS' hacc
    rcases List.mem_cons.mp hmem with e' | hmem
    · exact hb e'
    · exact absurd (Heap.lt_size e) (by rw [List.mem_singleton.mp hmem]; exact Nat.lt_irrefl _)
  refine wpAny_ite_split (fun _ => ?_) (fun _ => wpAny_pure ⟨plainId_quiet PySem.F.plain_extend_loop _, key _ c₀ _ st (fun b o _ e => Heap.get?_push_of_some _ e) hS₁⟩)
  refine wpAny_bind (wpAny_rule ?_)
  refine wpAny_bind ?_
  show wpAny _ _ (updateSeq S (·.push .none) >>= fun _ => updateSeq S (·.pop)) _ _ _
  refine wpAny_bind (wpAny_updateSeq hS₁ rfl ?_)
  have hS₂ := Heap.get?_update_self (Obj.mapSeq (·.push Value.none)) hS₁ rfl
  refine wpAny_updateSeq (hz := by seq_fits) hS₂ rfl ?_
  have hS₃ := Heap.get?_update_self (Obj.mapSeq (·.pop)) hS₂ rfl
  refine wpAny_pure ⟨plainId_quiet PySem.F.plain_extend_loop _, key _ _ _ ?_ (fun b o hb e => ?_) hS₃⟩
  · refine W.frame 0 _ _ st fun b hb o e => ?_
    have hbS : b ≠ S := fun h => hSf (h ▸ hb)
    exact (Heap.get?_update_other _ _ (Ne.symm hbS)).trans ((Heap.get?_update_other _ _ (Ne.symm hbS)).trans e)
  · exact (Heap.get?_update_other _ _ (Ne.symm hb)).trans ((Heap.get?_update_other _ _ (Ne.symm hb)).trans (Heap.get?_push_of_some _ e))
theorem ks_init {R : Result → Shared → Prop} {x : Str} {t : Tok} (hh : A.handled = none) (S : Addr) (hS : s.heap.get? S = some { cls := .type "list", data := .seq #[] })
    (hR : ∀ h' tk acc' c', (∀ b o, b ≠ S → s.heap.get? b = some o → h'.get? b = some o) → h'.get? S = some { cls := .type "list", dict := none, data := .seq acc' c', slots := #[] } → ItemsOf (SignAt x) acc' x.cps.size → R (.ok (.ret .none)) { s with heap := h', toks := tk }) (hn : x.cps.size ≤ sizeLine) :
    wpAny (model prog w) A.in1 (Builtin.«list.__init__» ⟨[.ref S, .str x t], []⟩)
      (fun fin s' => match fin with | .done f => R (.ok f) s' | .again c' => c'.quiet = true ∧ codeAny (model prog w) A c' R s') (fun e s' => R (.error e) s') s := by
  show wpAny _ _ (do let old ← Builtin.List.listItems (.ref S); Builtin.List.listUpdate (.ref S) (fun _ => #[]); letGo old.toList.reverse; Builtin.List.listExtendWith (.ref S) (.str x t) .none) _ _ s
  refine wpAny_bind ?_
  unfold Builtin.List.listItems
  refine wpAny_bind (wpAny_seqItems hS rfl (wpAny_pure ?_))
  show wpAny _ _ (updateSeq S (fun _ => #[]) >>= fun _ => letGo (#[] : Array Value).toList.reverse >>= fun _ => Builtin.List.listExtendWith (.ref S) (.str x t) .none) _ _ s
  refine wpAny_bind (wpAny_updateSeq hS rfl ?_)
  have hS₂ := Heap.get?_update_self (Obj.mapSeq (fun _ => (#[] : Array Value))) hS rfl
  have oth : ∀ b o, b ≠ S → s.heap.get? b = some o → (s.heap.update S (Obj.mapSeq (fun _ => (#[] : Array Value)))).get? b = some o :=
    fun b o hb e => (Heap.get?_update_other _ _ (Ne.symm hb)).trans e
  refine wpAny_bind (wpAny_letGo ?_)
  refine ks_extend hh S .none _ hS₂ (fun h' tk acc' c' hk hS' hacc => ?_) hn
  exact hR h' tk acc' c' (fun b o hb e => hk b o hb (oth b o hb e)) hS' hacc
theorem ks_call {x : Str} {t : Tok} {Q : Value → Shared → Prop} (hh : A.handled = none) (hn : x.cps.size ≤ sizeLine)
    (hQ : ∀ h' tk acc' c', (∀ b o, s.heap.get? b = some o → h'.get? b = some o) → h'.get? s.heap.objs.size = some { cls := .type "list", dict := none, data := .seq acc' c', slots := #[] } → ItemsOf (SignAt x) acc' x.cps.size → Q (.ref s.heap.objs.size) { s with heap := h', toks := tk }) :
    wpAny (model prog w) A (call (.type "list") [.str x t]) Q E s := by
  refine callType_codes (Q₁ := fun obj s₁ => obj = .ref s.heap.objs.size ∧ s₁ = { s with heap := s.heap.push { cls := .type "list", data := .seq #[] } }) PySem.F.called_list (PySem.F.typeCall_list_1 _) PySem.F.entry_list_init
    (code_list_new _ ⟨rfl, rfl⟩) fun obj s₁ h₁ => ?_
  obtain ⟨rfl, rfl⟩ := h₁
  have hS : (s.heap.push { cls := .type "list", data := .seq #[] }).get? s.heap.objs.size = some { cls := .type "list", data := .seq #[] } := Heap.get?_push_size _ rfl
  refine ⟨⟨_, hS, rfl⟩, PySem.F.args_list_init_2 _ _, ks_init (A := A.in1) hh _ hS (fun h' tk acc' c' hk hS' hacc => ?_) hn⟩
  exact ⟨rfl, hQ h' tk acc' c' (fun b o e => hk b o (Nat.ne_of_lt (Heap.lt_size e)) (Heap.get?_push_of_some _ e)) hS' hacc⟩
end

/-! ### over the hand layer -/
def ItvS (x : Str) : It := ⟨fun i H => i < x.length, fun i H v H' => H' = H ∧ ∃ c, x.cps[x.length - 1 - i]? = some c ∧ v = .str ⟨#[c]⟩, fun i _ => x.length ≤ i⟩
theorem turn_rs {P : Program} {w : World} {K : PySem.W.Frag} {tg : Expr} (x : Str) (t : Tok) (it : Addr) (hz : x.length ≤ sizeLine) : Turn P w K tg (ItvS x) [it] it (fun i h => i ≤ x.length ∧ IsRs h it x t ((x.length : Int) - 1 - (i : Nat))) where
  mem := by simp
  obj := fun i h st b hb => by
    have e : b = it := by simpa using hb
    subst e
    obtain ⟨_, o, e, c, d⟩ := st
    exact ⟨o, e, fun v z => by rw [d] at z; cases z⟩
  keep := fun i h h' st k => ⟨st.1, st.2.at fun o e => k it (by simp) o e⟩
  item := by
    intro X hP hw hK hc i pins s σ H E I hf st hg
    subst hP hw hK
    obtain ⟨f0, f1, f2, f3, f4, f5⟩ := hf it (by simp)
    obtain ⟨_, hit⟩ := st
    have hg : i < x.length := hg
    have e1 : (x.length : Int) - 1 - ((i : Nat) : Int) = ((x.length - 1 - i : Nat) : Int) := by omega
    rw [e1] at hit
    have hlt : x.length - 1 - i < x.cps.size := by show _ < x.length; omega
    refine next_rs_item hit (c := x.cps[x.length - 1 - i]) (Array.getElem?_eq_getElem hlt) hz fun h' u tk st' sb => ?_
    have e2 : ((x.length - 1 - i : Nat) : Int) - 1 = (x.length : Int) - 1 - ((i + 1 : Nat) : Int) := by omega
    rw [e2] at st'
    have I1 : Inv X pins σ H { s with heap := h', toks := tk } := I.turned (t' := tk) (fun b o hb e => (sb.2 b hb).trans e) f0 f1 f3 f4 f5
    obtain ⟨o, e, c, d⟩ := id st'
    exact ⟨_, rfl, go_of (s := { s with heap := h', toks := tk }) e c d (by decide) ⟨.str ⟨#[x.cps[x.length - 1 - i]]⟩, H, I1, ⟨u, rfl⟩, ⟨rfl, _, Array.getElem?_eq_getElem hlt, rfl⟩, ⟨hg, st'⟩, fun b hb => (hf b hb).1⟩⟩
  done := by
    intro X hP hw hK hc i pins s σ H E I hf st hg
    subst hP hw hK
    obtain ⟨f0, f1, f2, f3, f4, f5⟩ := hf it (by simp)
    obtain ⟨hin, hit⟩ := st
    have hge : x.length ≤ i := hg
    have e1 : (x.length : Int) - 1 - ((i : Nat) : Int) = -1 := by omega
    rw [e1] at hit
    exact next_rs_end (I.ok.hd hc) hit fun h' eb => ⟨rfl, I.turned (t' := s.toks) (fun b o hb e => eb b o hb e) f0 f1 f3 f4 f5⟩
  self := fun A i s Q E st h => iter_rs st.2 h
def iRevS (te : TE) : TI := fun σ H R => te σ H fun v H1 => ∃ x : Str, v = .str x ∧ x.length ≤ sizeLine ∧ R (ItvS x) H1
theorem pi_revS {X : Cx} {tg e : Expr} {te : TE} {p pos : Pos} (hg : Gl X "reversed") (hm : X.mg "reversed" = none) (he : PE X e te) (hs : starEach [e] X.env = (false, eval e X.env) :: starEach [] X.env := by rfl) : PI X tg (.Call (.Name "reversed" p) [e] [] pos) (iRevS te) := by
  refine ⟨fun pins s σ H R I h => ?_⟩
  refine Call_ (ld_blt I hg hm PyProof.Rows.boot_reversed (PyProof.Rows.callWith_type1 (args_cons (thn (he.run pins s σ H _ I h) fun u s1 ⟨v, H1, I1, r1, q1⟩ => args_nil ?_) hs) hs rfl))
  obtain ⟨x, ev, hz, q⟩ := q1
  subst ev
  obtain ⟨t, rfl⟩ := r1
  have hn := line63
  refine call_reversed_str (by omega) (iter_rs (x := x) (t := t) (i := ((x.length : Nat) : Int) - 1) ⟨_, Heap.get?_push_size _ rfl, rfl, rfl⟩ ?_)
  refine pi_one (tk := s1.toks + 1 + 1) I1 _ (turn_rs x t _ hz) ⟨Nat.zero_le _, ?_⟩ q
  have e1 : ((x.length : Nat) : Int) - 1 = (x.length : Int) - 1 - ((0 : Nat) : Int) := by omega
  rw [← e1]
  exact ⟨_, Heap.get?_push_size _ rfl, rfl, rfl⟩
theorem call_listS {X : Cx} (hc : X.calm = true) : CallR X (.type "list") (fun xs H Q => ∃ x : Str, xs = [.str x] ∧ x.length ≤ sizeLine ∧ ∀ l, H l = none → Q (.ref l) (upd H l (.lst (x.cps.toList.map fun c => V.str ⟨#[c]⟩)))) := by
  intro pins s σ H xs us Q I r h
  obtain ⟨x, rfl, hz, q⟩ := h
  obtain ⟨u, rfl, t, rfl⟩ := vals1 r
  refine ks_call (I.ok.hd hc) hz fun h' tk acc' c' hk hS' hacc => ?_
  have hf : H s.heap.objs.size = none := I.hok.fresh (Nat.le_refl _)
  have hl : acc'.size = x.cps.size := hacc.1
  refine ⟨.ref s.heap.objs.size, _, I.laid (t' := tk) (o := .lst (x.cps.toList.map fun c => V.str ⟨#[c]⟩)) hk (Nat.le_refl _) ⟨?_, acc'.toList, c', ?_, ?_⟩, rfl, q _ hf⟩
  · rw [List.length_map, Array.length_toList]; exact hz
  · have key : ∀ (cs : List Nat) (us : List Value), us.length = cs.length → (∀ (j : Nat) (v : Value), us[j]? = some v → ∃ c u, cs[j]? = some c ∧ v = .str ⟨#[c]⟩ u) → Vals (cs.map fun c => V.str ⟨#[c]⟩) us := by
      intro cs
      induction cs with
      | nil => intro us hl _; cases us with
        | nil => exact .nil
        | cons _ _ => cases hl
      | cons c cs ih => intro us hl hv; cases us with
        | nil => cases hl
        | cons v vs =>
          obtain ⟨c', u, e1, e2⟩ := hv 0 v rfl
          cases e1
          exact .cons ⟨u, e2⟩ (ih vs (by simpa using hl) fun j w hw => by simpa using hv (j + 1) w (by simpa using hw))
    refine key _ _ (by rw [Array.length_toList, Array.length_toList]; exact hl) fun j v e => ?_
    obtain ⟨c, u, e1, e2⟩ := hacc.2 j v (by rw [← Array.getElem?_toList]; exact e)
    exact ⟨c, u, by rw [Array.getElem?_toList]; exact e1, e2⟩
  · rw [hS']
end PuE
set_option maxRecDepth 100000
set_option maxHeartbeats 4000000
namespace Pu
open PySem L2 PySem.Spec PyProof.Rows
section
variable {Γ Γ' : Gm} {κ κ' : Ka} {H H' : Hp} {env env' : En} {σ : Sl} {v : V} {st : Sto} {Y : Fam} {a b e : Expr} {es : List Expr} {ta tb te : PTE} {pos : Pos}

theorem ve_lc {scope : Scope} {tg it elt : Expr} {ifs : List Expr} {own : List (Str × Nat)} {ti : PTI} {g : PTG} {tt : PTT} {vs : List Nat} (hN : ∀ i, (Y.X i).N.Nodup) (hi : VI Y tg it ti) (ok : ∀ i, BlkOk (Y.X i).N (Y.X i).env.scope scope own) (hg : VG (Y.blk scope) tg vs g) (ht : VTs (Y.blk scope) ifs tt) (he : VE (Y.blk scope) elt te)
    (hv : own.map (·.2) = vs := by rfl) (hc : ∀ i, (Y.X i).calm = true := by intro _; rfl) (hs : ∀ (X : Cx) x, foldedSetIterable it X.env x = pure x := by intro _ _; rfl) : VE Y (.ListComp elt [⟨tg, it, ifs, 0⟩] scope pos) (cLc ti g tt te vs) := by
  obtain ⟨ri, pi, fi⟩ := hi.ex
  obtain ⟨rg, pg, fg⟩ := hg.ex
  obtain ⟨rt, pt, ft⟩ := ht.ex
  obtain ⟨re, pe, fe⟩ := he.ex
  have pg' : ∀ (i : Y.ι) (s : Shared) (H : Hp) (C : Addr) (cl : List (Str × Addr)) (fp : List Addr), PG ((Y.X i).blk s H scope (compEnvC scope cl C (Y.X i).env) fp) tg rg := fun i s H C cl fp => pg (i, s, H, C, cl, fp)
  have pt' : ∀ (i : Y.ι) (s : Shared) (H : Hp) (C : Addr) (cl : List (Str × Addr)) (fp : List Addr), PTs ((Y.X i).blk s H scope (compEnvC scope cl C (Y.X i).env) fp) ifs (rt E0) := fun i s H C cl fp => pt (i, s, H, C, cl, fp)
  have pe' : ∀ (i : Y.ι) (s : Shared) (H : Hp) (C : Addr) (cl : List (Str × Addr)) (fp : List Addr), PE ((Y.X i).blk s H scope (compEnvC scope cl C (Y.X i).env) fp) elt (re E0) := fun i s H C cl fp => pe (i, s, H, C, cl, fp)
  refine ⟨⟨fun E => L2.tLc (ri E) rg (rt E0) (re E0) (own.map (·.2)), fun i => pe_lc (hc i) (hN i) (pi i) (ok i) (pg' i) (pt' i) (pe' i) (hs _), fun Γ σ κ H env Q Q' hK I q k => ?_⟩⟩
  exact lc_ref (it := it) (elt := elt) (ifs := ifs) (tg := tg) hv fi fg (fun Γ σ κ H env Q Q' gk eE I q k => by rw [← eE]; exact ft Γ σ κ H env Q Q' gk I q k) (fun Γ σ κ H env Q Q' gk eE I q k => by rw [← eE]; exact fe Γ σ κ H env Q Q' gk I q k) hK I q k
theorem vs_setLc {i : Nat} {y : Str} {py spos : Pos} {scope : Scope} {tg it elt : Expr} {ifs : List Expr} {own : List (Str × Nat)} {ti : PTI} {g : PTG} {tt : PTT} {vs : List Nat} (hN : ∀ i, (Y.X i).N.Nodup) (hi : VI Y tg it ti) (ok : ∀ i, BlkOk (Y.X i).N (Y.X i).env.scope scope own) (hg : VG (Y.blk scope) tg vs g) (ht : VTs (Y.blk scope) ifs tt) (he : VE (Y.blk scope) elt te)
    (hy : ∀ j, (Y.X j).N[i]? = some y := by intro _; rfl) (hyl : ∀ j, (Y.X j).env.scope.names.lookup y = some .local := by intro _; rfl)
    (hsw : ∀ j, swapsWith (.ListComp elt [⟨tg, it, ifs, 0⟩] scope pos) (some (.Name y py)) spos.line (Y.X j).env = pure true := by intro _; exact sw_true rfl rfl rfl (by decide +kernel))
    (hv : own.map (·.2) = vs := by rfl) (hc : ∀ i, (Y.X i).calm = true := by intro _; rfl) (hs : ∀ (X : Cx) x, foldedSetIterable it X.env x = pure x := by intro _ _; rfl) :
    VS Y (.Assign [.Name y py] (.ListComp elt [⟨tg, it, ifs, 0⟩] scope pos) spos) (sAsg i (cLc ti g tt te vs)) := by
  obtain ⟨ri, pi, fi⟩ := hi.ex
  obtain ⟨rg, pg, fg⟩ := hg.ex
  obtain ⟨rt, pt, ft⟩ := ht.ex
  obtain ⟨re, pe, fe⟩ := he.ex
  have pg' : ∀ (i : Y.ι) (s : Shared) (H : Hp) (C : Addr) (cl : List (Str × Addr)) (fp : List Addr), PG ((Y.X i).blk s H scope (compEnvC scope cl C (Y.X i).env) fp) tg rg := fun i s H C cl fp => pg (i, s, H, C, cl, fp)
  have pt' : ∀ (i : Y.ι) (s : Shared) (H : Hp) (C : Addr) (cl : List (Str × Addr)) (fp : List Addr), PTs ((Y.X i).blk s H scope (compEnvC scope cl C (Y.X i).env) fp) ifs (rt E0) := fun i s H C cl fp => pt (i, s, H, C, cl, fp)
  have pe' : ∀ (i : Y.ι) (s : Shared) (H : Hp) (C : Addr) (cl : List (Str × Addr)) (fp : List Addr), PE ((Y.X i).blk s H scope (compEnvC scope cl C (Y.X i).env) fp) elt (re E0) := fun i s H C cl fp => pe (i, s, H, C, cl, fp)
  refine ⟨⟨fun E => tAsg (L2.tLc (ri E) rg (rt E0) (re E0) (own.map (·.2))) (L2.gName i), fun j => ps_setLc (hc j) (hN j) (hy j) (hyl j) (hsw j) (pi j) (ok j) (pg' j) (pt' j) (pe' j) (hs _), fun Γ σ κ H env D D' hK I q l => ?_⟩⟩
  refine lc_ref (it := it) (elt := elt) (ifs := ifs) (tg := tg) hv fi fg (fun Γ σ κ H env Q Q' gk eE I q k => by rw [← eE]; exact ft Γ σ κ H env Q Q' gk I q k) (fun Γ σ κ H env Q Q' gk eE I q k => by rw [← eE]; exact fe Γ σ κ H env Q Q' gk I q k) hK I q fun v κ1 H1 r1 e1 x1 I1 h1 q1 => ?_
  exact asg_ok I1 (by rw [I1.len]; exact q1.1) h1 q1.2 fun κ2 e2 x2 I2 q2 => l.1 _ κ2 H1 e2 (x1.trans x2) I2 q2

/-! ### defs -/
abbrev PM := List D → Sto → (C → Sto → Prop) → Prop
/-- a def that raises nothing, by its pure promise -/
def sp0 (K : PySem.W.Frag) (cls : Nat → Addr) (flds : Nat → List Str) (m : PM) : Sp := fun vs H Q _ => ∃ (κ : Ka) (ds : List D) (st : Sto) (Q' : C → Sto → Prop),
  Gh ⟨K, H, κ, cls, flds, E0, noX⟩ κ st H ∧ RepL K cls κ H vs ds ∧ m ds st Q' ∧
  ∀ v κ' H' c st', Gh ⟨K, H, κ, cls, flds, E0, noX⟩ κ' st' H' → RelC ⟨K, H, κ, cls, flds, E0, noX⟩ κ' H' v c → Q' c st' → Q v H'
def C.toR (c : C) : R := match c with
  | .un => .d .non
  | .d y => .d y
  | .own ys => .own ys
  | .dK ys => .dK ys
  | .dT ys => .dT ys
def tCall0 (m : PM) (t : PTA) : PTE := fun x e Q => t x e fun ds e1 => m ds e1.st fun c st' => Q c.toR ⟨e1.sl, st'⟩
theorem Gh.enter {E' : XK} {x' : PX} (I : Rl Γ κ env σ H) : Gh ⟨Γ.K, H, κ, Γ.cls, Γ.flds, E', x'⟩ κ env.st H := by
  have g := I.gh
  refine ⟨fun _ _ e => e, fun _ _ e => .inl e, g.trk, fun _ e => e, g.box, fun a k e => ?_, g.inj, fun a o e _ => e⟩
  obtain ⟨so, h1, h2⟩ := g.obj a k e
  exact ⟨so, h1, h2.switch rfl rfl⟩
theorem Gh.leave {E' : XK} {x' : PX} {st' : Sto} (g : Gh Γ κ st H) (h : Gh ⟨Γ.K, H, κ, Γ.cls, Γ.flds, E', x'⟩ κ' st' H') : Gh Γ κ' st' H' := by
  refine ⟨fun a x e => h.sub a x (g.sub a x e), fun a x e => ?_, h.trk, fun a e => h.trk0 a (g.trk0 a e), h.box, fun a k e => ?_, h.inj, fun a o e hk => ?_⟩
  · rcases h.new a x e with z | z
    · exact g.new a x z
    · exact .inr (g.nokap0 z)
  · obtain ⟨so, h1, h2⟩ := h.obj a k e
    exact ⟨so, h1, h2.switch rfl rfl⟩
  · refine h.base a o (g.base a o e hk) ?_
    show κ a = none ∨ κ a = some .frz
    rcases hk with hk | hk
    · left
      cases q : κ a with
      | none => rfl
      | some x =>
        rcases g.new a x q with z | z
        · rw [hk] at z; cases z
        · rw [e] at z; cases z
    · exact .inr (g.sub a _ hk)
theorem Ext.leave {E' : XK} {x' : PX} {st' : Sto} (g : Gh Γ κ st H) (h : Gh ⟨Γ.K, H, κ, Γ.cls, Γ.flds, E', x'⟩ κ' st' H') : Ext κ H κ' H' := by
  refine ⟨h.sub, fun a e => ?_⟩
  cases q : H a with
  | none => exact absurd q (g.trk a _ e)
  | some o => exact h.base a o q (.inr e)
theorem Rl.leave {E' : XK} {x' : PX} {st' : Sto} (I : Rl Γ κ env σ H) (h : Gh ⟨Γ.K, H, κ, Γ.cls, Γ.flds, E', x'⟩ κ' st' H') : Rl Γ κ' ⟨env.sl, st'⟩ σ H' := by
  refine I.step (Ext.leave I.gh h) (fun i a hs => ?_) (I.gh.leave h)
  obtain ⟨c, _, hc⟩ := I.ownS hs
  obtain ⟨k1, _, k3⟩ := hc.facts
  constructor
  · cases q : κ' a with
    | none => rfl
    | some x =>
      rcases h.new a x q with z | z
      · have z : κ a = some x := z
        rw [k1] at z; cases z
      · exact absurd z k3
  · cases q : H a with
    | none => exact absurd q k3
    | some o => exact h.base a o q (.inl k1)
theorem RelC.leave {E' : XK} {x' : PX} {st' : Sto} {c : C} (I : Rl Γ κ env σ H) (h : RelC ⟨Γ.K, H, κ, Γ.cls, Γ.flds, E', x'⟩ κ' H' v c) : RelR Γ κ' H' ⟨env.sl, st'⟩ σ v c.toR := by
  have low : ∀ a, H a = none → Γ.H0 a = none := fun a z => I.gh.nokap0 z
  have ns : ∀ a, H a = none → ∀ i, ¬ OwnS ⟨env.sl, st'⟩ σ i a := fun a z i hs => I.fresh z i hs
  cases c with
  | un => exact h.elim
  | d d => exact h
  | own ds => obtain ⟨a, rfl, h1⟩ := h; exact ⟨a, rfl, OwnC.switch (Γ := ⟨Γ.K, H, κ, Γ.cls, Γ.flds, E', x'⟩) (Γ' := Γ) rfl rfl (low a h1.facts.2.1) h1, ns a h1.facts.2.1⟩
  | dK ds => obtain ⟨a, rfl, h1⟩ := h; exact ⟨a, rfl, OwnC.switch (Γ := ⟨Γ.K, H, κ, Γ.cls, Γ.flds, E', x'⟩) (Γ' := Γ) rfl rfl (low a h1.facts.2.1) h1, ns a h1.facts.2.1⟩
  | dT ds => obtain ⟨a, rfl, h1⟩ := h; exact ⟨a, rfl, OwnC.switch (Γ := ⟨Γ.K, H, κ, Γ.cls, Γ.flds, E', x'⟩) (Γ' := Γ) rfl rfl (low a h1.facts.2.1) h1, ns a h1.facts.2.1⟩
/-- a call of a def of the text that raises nothing -/
theorem ve_call0 {k : Nat} {f : Addr} {fd : FuncData} {ps : List Str} {x : Str} {p : Pos} {m : PM} {t : PTA} (F : ∀ i, FnG (Y.X i).prog (Y.X i).w (Y.X i).K (Y.X i).mg (Y.X i).base CX0 k f fd ps (sp0 Y.K Y.cls Y.flds m)) (hr : ∀ i, Room k (Y.X i).A) (hgd : ∀ i, (Y.X i).A.guards = some []) (hm : ∀ i, (Y.X i).mg x = some (.ref f)) (hk : PySem.W.keepIn Y.K (.ref f) = true) (hb : Binds Y.K fd ps [])
    (ha : VA Y (e :: es) t) (hg : ∀ i, Gl (Y.X i) x := by intro _; rfl) (hdb : (x == ("__debug__" : Str)) = false := by decide) (he : ∀ X : Cx, starEach (e :: es) X.env = (false, eval e X.env) :: starEach es X.env := by intro _; rfl) (hpl : ∀ X : Cx, (backTo pos (starEach es X.env)).any (·.1) = false := by intro _; rfl) :
    VE Y (.Call (.Name x p) (e :: es) [] pos) (tCall0 m t) := by
  obtain ⟨ra, pa, fa⟩ := ha.ex
  refine ⟨⟨fun E => tCall (sp0 Y.K Y.cls Y.flds m) [] E0 (ra E), fun i => pe_callG (F i) (hr i) (hgd i) (hg i) (hm i) (by rw [Y.hK i]; exact hk) (by rw [Y.hK i]; exact hb) .nil pass0 (pa i) hdb (he _) (hpl _), fun Γ σ κ H env Q Q' hK I q k => ?_⟩⟩
  refine fa Γ σ κ H env _ _ hK I q fun vs κ1 H1 ds e1 x1 I1 h1 q1 => ?_
  rw [List.append_nil, ← hK.k, ← hK.c, ← hK.f]
  refine ⟨κ1, ds, e1.st, _, Gh.enter I1, h1, q1, fun v κ' H' c st' g r q => ?_⟩
  exact k v κ' H' c.toR ⟨e1.sl, st'⟩ (x1.trans (Ext.leave I1.gh g)) (I1.leave g) (RelC.leave I1 r) q
theorem ve_call00 {k : Nat} {f : Addr} {fd : FuncData} {ps : List Str} {x : Str} {p : Pos} {m : PM} (F : ∀ i, FnG (Y.X i).prog (Y.X i).w (Y.X i).K (Y.X i).mg (Y.X i).base CX0 k f fd ps (sp0 Y.K Y.cls Y.flds m)) (hr : ∀ i, Room k (Y.X i).A) (hgd : ∀ i, (Y.X i).A.guards = some []) (hm : ∀ i, (Y.X i).mg x = some (.ref f)) (hk : PySem.W.keepIn Y.K (.ref f) = true) (hb : Binds Y.K fd ps [])
    (hg : ∀ i, Gl (Y.X i) x := by intro _; rfl) (hdb : (x == ("__debug__" : Str)) = false := by decide) : VE Y (.Call (.Name x p) [] [] pos) (tCall0 m tNil) := by
  refine ⟨⟨fun E => tCall (sp0 Y.K Y.cls Y.flds m) [] E0 L2.tNil, fun i => pe_call0G (F i) (hr i) (hgd i) (hg i) (hm i) (by rw [Y.hK i]; exact hk) (by rw [Y.hK i]; exact hb) .nil pass0 hdb, fun Γ σ κ H env Q Q' hK I q k => ?_⟩⟩
  show sp0 Y.K Y.cls Y.flds m [] H Q' E0
  rw [← hK.k, ← hK.c, ← hK.f]
  refine ⟨κ, [], env.st, _, Gh.enter I, .nil, q, fun v κ' H' c st' g r q => ?_⟩
  exact k v κ' H' c.toR ⟨env.sl, st'⟩ (Ext.leave I.gh g) (I.leave g) (RelC.leave I r) q

/-- where a def's body runs -/
structure DI (qual : Str) (sc : Scope) (f : Addr) (k : Nat) where
  cdv : Value
  A : Around
  outer : List Env
  s : Shared
  H : Hp
  E : XK
  hr : Room k (A.deeper (envOfC qual sc s.heap.objs.size f cdv))
  gd : A.guards = some []
def fam0 (P : Program) (w : World) (K : PySem.W.Frag) (mg : Str → Option Value) (base : Heap) (N : List Str) (qual : Str) (sc : Scope) (f : Addr) (k : Nat) (cls : Nat → Addr) (flds : Nat → List Str) : Fam where
  ι := DI qual sc f k
  X := fun i => (cxOf CX0 P w K mg base N qual sc f i.cdv i.A i.outer i.s i.H i.E).nox
  E := fun _ => E0
  K := K
  hK := fun _ => rfl
  cls := cls
  flds := flds
def startC (N : List Str) (ds : List D) : List C := ds.map C.d ++ List.replicate (N.length - ds.length) C.un
theorem start_rl {N : List Str} {vs : List V} {ds : List D} {K : PySem.W.Frag} {cls : Nat → Addr} {flds : Nat → List Str} {E : XK} {x : PX} (g : Gh ⟨K, H, κ, cls, flds, E, x⟩ κ st H) (r : RepL K cls κ H vs ds) : Rl ⟨K, H, κ, cls, flds, E, x⟩ κ ⟨startC N ds, st⟩ (L2.start N vs) H := by
  refine ⟨by unfold L2.start startC; simp [r.length], fun i c ec => ?_, fun i j a h1 _ => ?_, g⟩
  · have ec : (startC N ds)[i]? = some c := ec
    unfold startC at ec
    by_cases hi : i < ds.length
    · rw [List.getElem?_append_left (by simpa using hi), List.getElem?_map, List.getElem?_eq_getElem hi] at ec
      cases ec
      obtain ⟨v, e1, r1⟩ := r.get (List.getElem?_eq_getElem hi)
      refine ⟨v, ?_, r1⟩
      unfold L2.start
      rw [List.getElem?_append_left (by rw [List.length_map, r.length]; exact hi), List.getElem?_map, e1]
      rfl
    · rw [List.getElem?_append_right (by simpa using hi), List.getElem?_replicate] at ec
      split at ec
      · cases ec; trivial
      · cases ec
  · obtain ⟨_, c, ec, hc⟩ := h1
    have ec : (startC N ds)[i]? = some c := ec
    unfold startC at ec
    by_cases hi : i < ds.length
    · rw [List.getElem?_append_left (by simpa using hi), List.getElem?_map, List.getElem?_eq_getElem hi] at ec
      cases ec
      cases hc
    · rw [List.getElem?_append_right (by simpa using hi), List.getElem?_replicate] at ec
      split at ec
      · cases ec; cases hc
      · cases ec
/-- THE RULE for a def that raises nothing -/
theorem fn0 {P : Program} {w : World} {K : PySem.W.Frag} {mg : Str → Option Value} {base : Heap} {N ps : List Str} {x qual : Str} {st : Stmt} {f : Addr} {fd : FuncData} {k : Nat} {cls : Nat → Addr} {flds : Nat → List Str} {t : PTS} {m : PM}
    (F : Fun K x qual st f fd) (S : FnScope N ps (defScope st)) (h : VSs (fam0 P w K mg base N qual (defScope st) f k cls flds) (defBody st) t) (len : ∀ ds s Q, m ds s Q → ds.length = ps.length)
    (ok : ∀ ds s Q, m ds s Q → t noX { nx := fun e => Q (.d .non) e.st, rt := fun c e => Q c e.st } ⟨startC N ds, s⟩) : FnG P w K mg base CX0 (k + 1) f fd ps (sp0 K cls flds m) := by
  refine fnG_of F S (fun vs H Q E hq => ?_) (fun cdv A outer s H vs Q E hr gd hq => ?_)
  · obtain ⟨κ, ds, st, Q', g, r, hm, _⟩ := hq
    rw [r.length]
    exact len ds st Q' hm
  · obtain ⟨κ, ds, st', Q', g, r, hm, fin⟩ := hq
    obtain ⟨rd, ph, fh⟩ := h.ex
    refine ⟨rd E0, (ph ⟨cdv, A, outer, s, H, E, hr, gd⟩).nox, ?_⟩
    refine fh ⟨K, H, κ, cls, flds, E0, noX⟩ (L2.start N vs) κ H ⟨startC N ds, st'⟩ _ _ ⟨rfl, rfl, rfl, fun _ _ _ _ _ _ _ _ z _ _ => False.elim z⟩ (start_rl g r) (ok ds st' Q' hm) ⟨fun σ' κ' H' e' x I q => ?_, fun v κ' H' c e' x gg rr q => fin v κ' H' c e'.st gg rr q, fun _ _ _ _ _ _ q => False.elim q, fun _ _ _ _ _ _ q => False.elim q⟩
    exact fin .non κ' H' (.d .non) e'.st I.gh .non q
/-- a weaker promise -/
theorem FnG.imp0 {P : Program} {w : World} {K : PySem.W.Frag} {mg : Str → Option Value} {base : Heap} {ps : List Str} {f : Addr} {fd : FuncData} {k : Nat} {cls : Nat → Addr} {flds : Nat → List Str} {m m' : PM}
    (F : FnG P w K mg base CX0 k f fd ps (sp0 K cls flds m)) (h : ∀ ds s Q, m' ds s Q → m ds s Q) : FnG P w K mg base CX0 k f fd ps (sp0 K cls flds m') :=
  F.imp fun vs H Q E ⟨κ, ds, st, Q', g, r, hm, fin⟩ => ⟨κ, ds, st, Q', g, r, h _ _ _ hm, fin⟩
end
end Pu
set_option maxRecDepth 100000
set_option maxHeartbeats 4000000
namespace Pu
open PySem L2
section
variable {Γ Γ' : Gm} {κ κ' : Ka} {H H' : Hp} {env env' : En} {σ : Sl} {v : V} {st : Sto} {Y : Fam} {a b e o : Expr} {es : List Expr} {ta tb te to : PTE} {pos : Pos}

/-! ### built-in types' methods that only read -/
def MtRef (T : String) (r : PySem.W.Frag → V → List V → Hp → VK → Prop) (p : D → List D → (R → Prop) → Prop) : Prop :=
  ∀ (Γ : Gm) (σ : Sl) (κ : Ka) (H : Hp) (env : En) (v : V) (d : D) (vs : List V) (ds : List D) (Q : R → Prop) (Q' : VK), Rl Γ κ env σ H → RepT Γ κ H v d → RepTL Γ κ H vs ds → p d ds Q →
    (∀ v' κ' H' r, Ext κ H κ' H' → Rl Γ κ' env σ H' → RelR Γ κ' H' env σ v' r → Q r → Q' v' H') → r Γ.K v vs H Q'
/-- what is of a built-in type, at its top -/
def D.isTy (T : String) : D → Prop
  | .str _ => T = "str"
  | .lst _ => T = "list"
  | _ => False
theorem tyV_of {T : String} {d : D} (h : RepT Γ κ H v d) (e : d.isTy T) : tyV Γ.K T v H := by
  cases d with
  | str s => obtain ⟨rfl, _⟩ := Rep.strE h; exact e
  | lst ds => obtain ⟨a, vs, rfl, h1, _⟩ := h; exact .inl ⟨e, vs, SqL.of h1⟩
  | _ => exact e.elim
def tMeth (T : String) (p : D → List D → (R → Prop) → Prop) (to : PTE) (t : PTR) : PTE := fun x e Q => to x e fun r e1 => hold r e1 fun r e1 => (match rv r e1 with
  | some d => d.isTy T
  | none => False) ∧ t x e1 fun rs e2 => match rv r e2, rvL rs e2 with
    | some d, some ds => p d ds (fun r => Q r e2)
    | _, _ => False
theorem ve_meth {id T : String} {name : Str} {apos cpos : Pos} {r : PySem.W.Frag → V → List V → Hp → VK → Prop} {p : D → List D → (R → Prop) → Prop} {t : PTR} (pa : PlainAttrs T) (slot : Slot T name id) (hty : typeOf (.builtin id) = pure (.type "method_descriptor")) (hm : ∀ i, MtR (Y.X i) id (r (Y.X i).K)) (hr : MtRef T r p) (ho : VE Y o to) (ha : VR Y (e :: es) t)
    (hbase : ∀ X : Cx, attributeBase o name X.env (eval o X.env) = eval o X.env := by intro _; rfl)
    (hfew : ∀ X : Cx, ((backTo cpos (starEach (e :: es) X.env)).all (fun x => !x.1) && (backToKw cpos (keywordEach [] X.env)).all (fun x => x.1.isSome)
      && decide ((e :: es).length + ([] : List Keyword).length + (if ([] : List Keyword).isEmpty then 0 else 1) < 30)) = true := by intro _; rfl)
    (hline : (apos.endLine == cpos.line) = true := by rfl) (hs : ∀ X : Cx, starEach (e :: es) X.env = (false, eval e X.env) :: starEach es X.env := by intro _; rfl) (hplain : ∀ X : Cx, (backTo cpos (starEach es X.env)).any (·.1) = false := by intro _; rfl) :
    VE Y (.Call (.Attribute o name apos) (e :: es) [] cpos) (tMeth T p to t) := by
  obtain ⟨ro, po, fo⟩ := ho.ex
  obtain ⟨ra, pa', fa⟩ := ha.ex
  refine ⟨⟨fun E => tBM Y.K T (r Y.K) (ro E) (ra E), fun i => ?_, fun Γ σ κ H env Q Q' hK I q k => ?_⟩⟩
  · have h1 := hm i
    have h2 := pe_bm pa slot hty h1 (po i) (pa' i) (hbase _) (hfew _) hline (hs _) (hplain _)
    rw [Y.hK i] at h2
    exact h2
  · refine fo Γ σ κ H env _ _ hK I q fun v κ1 H1 r1 e1 x1 I1 h1 q1 => ?_
    refine hold_ok I1 h1 q1 fun κ2 r2 x2 I2 h2 q2 => ?_
    obtain ⟨q2a, q2⟩ := q2
    rw [← hK.k]
    constructor
    · cases e' : rv r2 e1 with
      | none => rw [e'] at q2a; exact q2a.elim
      | some d => rw [e'] at q2a; exact tyV_of (rv_ok I2 h2.rel e') q2a
    · refine fa Γ σ κ2 H1 e1 _ _ hK I2 q2 fun vs κ3 H3 rs e3 x3 I3 h3 q3 => ?_
      have h2' : RelR Γ κ3 H3 e3 σ v r2 := (h2.ext x3).rel
      cases e1' : rv r2 e3 with
      | none => rw [e1'] at q3; exact False.elim q3
      | some d1 =>
        cases e2' : rvL rs e3 with
        | none => rw [e1', e2'] at q3; exact False.elim q3
        | some ds =>
          rw [e1', e2'] at q3
          exact hr Γ σ κ3 H3 e3 v d1 vs ds _ Q' I3 (rv_ok I3 h2' e1') (rvL_ok I3 h3 e2') q3 fun v' κ' H' r x I' h' q' => k v' κ' H' r e3 (((x1.trans x2).trans x3).trans x) I' h' q'
def tMeth0 (T : String) (p : D → List D → (R → Prop) → Prop) (to : PTE) : PTE := fun x e Q => to x e fun r e1 => match rv r e1 with
  | some d => d.isTy T ∧ p d [] (fun r => Q r e1)
  | none => False
theorem ve_meth0 {id T : String} {name : Str} {apos cpos : Pos} {r : PySem.W.Frag → V → List V → Hp → VK → Prop} {p : D → List D → (R → Prop) → Prop} (pa : PlainAttrs T) (slot : Slot T name id) (hty : typeOf (.builtin id) = pure (.type "method_descriptor")) (hm : ∀ i, MtR (Y.X i) id (r (Y.X i).K)) (hr : MtRef T r p) (ho : VE Y o to)
    (hbase : ∀ X : Cx, attributeBase o name X.env (eval o X.env) = eval o X.env := by intro _; rfl) (hline : (apos.endLine == cpos.line) = true := by rfl) :
    VE Y (.Call (.Attribute o name apos) [] [] cpos) (tMeth0 T p to) := by
  obtain ⟨ro, po, fo⟩ := ho.ex
  refine ⟨⟨fun E => tBM0 Y.K T (r Y.K) (ro E), fun i => ?_, fun Γ σ κ H env Q Q' hK I q k => ?_⟩⟩
  · have h2 := pe_bm0 pa slot hty (hm i) (po i) (hbase _) hline
    rw [Y.hK i] at h2
    exact h2
  · refine fo Γ σ κ H env _ _ hK I q fun v κ1 H1 r1 e1 x1 I1 h1 q1 => ?_
    rw [← hK.k]
    cases e' : rv r1 e1 with
    | none => rw [e'] at q1; exact q1.elim
    | some d =>
      rw [e'] at q1
      exact ⟨tyV_of (rv_ok I1 h1 e') q1.1, hr Γ σ κ1 H1 e1 v d [] [] _ Q' I1 (rv_ok I1 h1 e') .nil q1.2 fun v' κ' H' r x I' h' q' => k v' κ' H' r e1 (x1.trans x) I' h' q'⟩

/-- sep.join(list or tuple of texts) -/
def strL : List D → Option (List (List Nat))
  | [] => some []
  | .str s :: ds => match strL ds with
    | some r => some (s :: r)
    | none => none
  | _ => none
def joinN (s : List Nat) : List (List Nat) → List Nat
  | [] => []
  | [x] => x
  | x :: y :: r => x ++ (s ++ joinN s (y :: r))
def D.items : D → List D
  | .lst ds => ds
  | .tup ds => ds
  | _ => [.non]
def pJoin (d : D) (ds : List D) (Q : R → Prop) : Prop := match d, ds with
  | .str s, [x] => match strL x.items with
    | some r => (r.map List.length).sum + r.length * s.length ≤ 16777216 ∧ Q (.d (.str (joinN s r)))
    | none => False
  | _, _ => False
theorem strL_rep : ∀ {ds : List D} {vs : List V} {r : List (List Nat)}, RepL Γ.K Γ.cls κ H vs ds → strL ds = some r → vs = r.map (fun s => V.str ⟨s.toArray⟩) ∧ (∀ s ∈ r, SOk s)
  | [], _, _, h, e => by cases h; cases e; exact ⟨rfl, by simp⟩
  | .str s :: ds, _, _, .cons h1 h2, e => by
    unfold strL at e
    cases q : strL ds with
    | none => rw [q] at e; cases e
    | some r' =>
      rw [q] at e
      cases e
      obtain ⟨rfl, hs⟩ := h1.strE
      obtain ⟨rfl, hr⟩ := strL_rep h2 q
      refine ⟨rfl, fun t ht => ?_⟩
      rcases List.mem_cons.mp ht with rfl | ht
      · exact hs
      · exact hr t ht
  | .non :: _, _, _, _, e => by simp [strL] at e
  | .bl _ :: _, _, _, _, e => by simp [strL] at e
  | .int _ :: _, _, _, _, e => by simp [strL] at e
  | .tup _ :: _, _, _, _, e => by simp [strL] at e
  | .lst _ :: _, _, _, _, e => by simp [strL] at e
  | .scr _ :: _, _, _, _, e => by simp [strL] at e
  | .box :: _, _, _, _, e => by simp [strL] at e
  | .ref _ :: _, _, _, _, e => by simp [strL] at e
  | .cls _ :: _, _, _, _, e => by simp [strL] at e
  | .exc _ _ _ :: _, _, _, _, e => by simp [strL] at e
theorem joinN_eq (s : List Nat) : ∀ r : List (List Nat), joinN s r = TL.joinL s r
  | [] => rfl
  | [_] => rfl
  | x :: y :: r => by
    show x ++ (s ++ joinN s (y :: r)) = x ++ (s ++ TL.joinL s (y :: r))
    rw [joinN_eq s (y :: r)]
theorem joinN_len (s : List Nat) : ∀ r : List (List Nat), (joinN s r).length ≤ (r.map List.length).sum + r.length * s.length
  | [] => by simp [joinN]
  | [x] => by simp [joinN]
  | x :: y :: r => by
    have ih := joinN_len s (y :: r)
    show (x ++ (s ++ joinN s (y :: r))).length ≤ _
    rw [List.length_append, List.length_append, List.map_cons, List.sum_cons, List.length_cons, Nat.add_mul, Nat.one_mul]
    omega
theorem joinN_mem (s : List Nat) : ∀ (r : List (List Nat)) (c : Nat), c ∈ joinN s r → c ∈ s ∨ ∃ x ∈ r, c ∈ x
  | [], c, h => by simp [joinN] at h
  | [x], c, h => .inr ⟨x, by simp, h⟩
  | x :: y :: r, c, h => by
    have h : c ∈ x ++ (s ++ joinN s (y :: r)) := h
    rcases List.mem_append.mp h with h | h
    · exact .inr ⟨x, by simp, h⟩
    · rcases List.mem_append.mp h with h | h
      · exact .inl h
      · rcases joinN_mem s (y :: r) c h with h | ⟨z, hz, h⟩
        · exact .inl h
        · exact .inr ⟨z, List.mem_cons_of_mem _ hz, h⟩
def rJoin (K : PySem.W.Frag) : V → List V → Hp → VK → Prop := fun x xs H Q => ∃ a p, ∃ ys : List Str, x = .str a ∧ xs = [.ref p] ∧ (SqL K H p (ys.map V.str) ∨ SqT K H p (ys.map V.str)) ∧
    (ys.map (·.length)).sum + ys.length * a.length ≤ 16777216 ∧ Q (.str (Txt.join a ys)) H
theorem ref_join : MtRef "str" rJoin pJoin := by
  intro Γ σ κ H env v d vs ds Q Q' I hd hs q k
  match d, ds, vs, hd, hs, q with
  | .str s, [x], _, hd, .cons hx .nil, q =>
    obtain ⟨rfl, hs⟩ := Rep.strE hd
    unfold pJoin at q
    simp only at q
    cases qe : strL x.items with
    | none => rw [qe] at q; exact q.elim
    | some r =>
      rw [qe] at q
      have key : ∀ (p : Addr) (ws : List V), (SqL Γ.K H p ws ∨ SqT Γ.K H p ws) → RepL Γ.K Γ.cls κ H ws x.items → rJoin Γ.K (.str ⟨s.toArray⟩) [.ref p] H Q' := by
        intro p ws hp hr
        obtain ⟨rfl, hall⟩ := strL_rep hr qe
        have e1 : r.map (fun s => V.str ⟨s.toArray⟩) = (r.map fun s => (⟨s.toArray⟩ : Str)).map V.str := by rw [List.map_map]; rfl
        rw [e1] at hp
        refine ⟨_, p, r.map fun s => (⟨s.toArray⟩ : Str), rfl, rfl, hp, ?_, ?_⟩
        · rw [List.map_map, List.length_map, str_len]
          have : ((fun x => x.length) ∘ fun s : List Nat => (⟨s.toArray⟩ : Str)) = List.length := by
            funext s
            exact str_len s
          rw [this]
          exact q.1
        · have e2 : Txt.join ⟨s.toArray⟩ (r.map fun s => (⟨s.toArray⟩ : Str)) = ⟨(joinN s r).toArray⟩ := by
            rw [joinN_eq]
            exact SX.join_S s r
          rw [e2]
          refine k _ κ H (.d (.str (joinN s r))) (.refl ..) I (.str _ ⟨?_, fun c hc => ?_⟩) q.2
          · have h1 := joinN_len s r
            have h2 := q.1
            rw [sizeLine_eq]
            omega
          · rcases joinN_mem s r c hc with h | ⟨y, hy, h⟩
            · exact hs.2 c h
            · exact (hall y hy).2 c h
      cases x with
      | lst ds => obtain ⟨p, ws, rfl, h1, h2, h3⟩ := hx; exact key p ws (.inl (SqL.of h1)) h3
      | tup ds => obtain ⟨p, ws, rfl, h1, h2, h3⟩ := Rep.sqT hx; exact key p ws (.inr h1) h3
      | _ => simp [D.items, strL] at qe
theorem ve_join {apos cpos : Pos} {t : PTR} (ho : VE Y o to) (ha : VR Y [e] t) (hbase : ∀ X : Cx, attributeBase o "join" X.env (eval o X.env) = eval o X.env := by intro _; rfl)
    (hfew : ∀ X : Cx, ((backTo cpos (starEach [e] X.env)).all (fun x => !x.1) && (backToKw cpos (keywordEach [] X.env)).all (fun x => x.1.isSome)
      && decide (([e] : List Expr).length + ([] : List Keyword).length + (if ([] : List Keyword).isEmpty then 0 else 1) < 30)) = true := by intro _; rfl)
    (hline : (apos.endLine == cpos.line) = true := by rfl) (hs : ∀ X : Cx, starEach [e] X.env = (false, eval e X.env) :: starEach [] X.env := by intro _; rfl) :
    VE Y (.Call (.Attribute o "join" apos) [e] [] cpos) (tMeth "str" pJoin to t) :=
  ve_meth PySem.F.plainAttrs_str PySem.F.slot_str_join PySem.F.type_str_join (fun _ => mt_join) ref_join ho ha hbase hfew hline hs

/-- text.index(sign) -/
def ixOf (c : Nat) : List Nat → Nat
  | [] => 0
  | x :: xs => if x = c then 0 else ixOf c xs + 1
theorem ixOf_spec {c : Nat} : ∀ {l : List Nat}, c ∈ l → l[ixOf c l]? = some c ∧ ∀ j, j < ixOf c l → l[j]? ≠ some c
  | [], h => by cases h
  | x :: xs, h => by
    unfold ixOf
    by_cases e : x = c
    · rw [if_pos e]
      exact ⟨by simp [e], fun j hj => absurd hj (Nat.not_lt_zero _)⟩
    · rw [if_neg e]
      rcases List.mem_cons.mp h with h | h
      · exact absurd h.symm e
      · obtain ⟨h1, h2⟩ := ixOf_spec h
        refine ⟨by simpa using h1, fun j hj => ?_⟩
        cases j with
        | zero => simpa using e
        | succ j => simpa using h2 j (by omega)
theorem occ_stay (x y : Str) (hi i : Nat) : ∀ (l : List Nat) (st : Array Nat × Nat), st.fst = #[i] → (forIn l st (StrLaws.occBody x y hi 1)).run.fst = #[i]
  | [], st, h => h
  | a :: l, st, h => by
    rw [List.forIn_cons]
    unfold StrLaws.occBody
    rw [if_neg (by rw [h]; simp)]
    exact occ_stay x y hi i l _ h
theorem occ_first (x y : Str) (hi i : Nat) : ∀ (l : List Nat) (free : Nat), (∀ j ∈ l, free ≤ j) → i ∈ l → (i + y.length ≤ hi ∧ Builtin.Str.subAt x y i = true) → l.Pairwise (· < ·) → (∀ j ∈ l, j < i → ¬ (j + y.length ≤ hi ∧ Builtin.Str.subAt x y j = true)) →
    (forIn l ((#[] : Array Nat), free) (StrLaws.occBody x y hi 1)).run.fst = #[i]
  | [], _, _, h, _, _, _ => by cases h
  | a :: l, free, hf, hm, hc, hp, hn => by
    rw [List.forIn_cons]
    unfold StrLaws.occBody
    by_cases e : a = i
    · subst e
      rw [if_pos ⟨⟨⟨by simp, hf a (by simp)⟩, hc.1⟩, hc.2⟩]
      exact occ_stay x y hi a l _ (by simp)
    · have hil : i ∈ l := by
        rcases List.mem_cons.mp hm with h | h
        · exact absurd h.symm e
        · exact h
      have hai : a < i := (List.pairwise_cons.mp hp).1 i hil
      rw [if_neg (fun z => hn a (by simp) hai ⟨z.1.2, z.2⟩)]
      exact occ_first x y hi i l free (fun j hj => hf j (List.mem_cons_of_mem _ hj)) hil hc (List.pairwise_cons.mp hp).2 fun j hj => hn j (List.mem_cons_of_mem _ hj)
theorem occ_ix {l : List Nat} {c : Nat} (h : c ∈ l) : Builtin.Str.occurrences ⟨l.toArray⟩ ⟨#[c]⟩ 0 (⟨l.toArray⟩ : Str).length 1 = [ixOf c l] := by
  obtain ⟨h1, h2⟩ := ixOf_spec h
  rw [StrLaws.occ_eq, occ_first _ _ _ (ixOf c l)]
  · exact fun j _ => Nat.zero_le _
  · have := (List.getElem?_eq_some_iff.mp h1).1
    rw [str_len]
    simp only [List.mem_range'_1]
    omega
  · exact (StrLaws.subAt_one _ c _).mpr (by simpa using h1)
  · exact List.pairwise_lt_range' ..
  · exact fun j _ hj z => h2 j hj (by simpa using (StrLaws.subAt_one _ c j).mp z)
def pIndexS (d : D) (ds : List D) (Q : R → Prop) : Prop := match d, ds with
  | .str l, [.str [c]] => c ∈ l ∧ Q (.d (.int (ixOf c l)))
  | _, _ => False
theorem ref_indexS : MtRef "str" (fun _ x xs H Q => ∃ a b i rest, x = .str a ∧ xs = [.str b] ∧ Builtin.Str.occurrences a b 0 a.length 1 = i :: rest ∧ Q (.int (i : Nat)) H) pIndexS := by
  intro Γ σ κ H env v d vs ds Q Q' I hd hs q k
  match d, ds, vs, hd, hs, q with
  | .str l, [.str [c]], _, hd, .cons hx .nil, q =>
    obtain ⟨rfl, _⟩ := Rep.strE hd
    obtain ⟨rfl, _⟩ := Rep.strE hx
    exact ⟨_, _, _, _, rfl, rfl, occ_ix q.1, k _ κ H (.d (.int (ixOf c l))) (.refl ..) I (.int _) q.2⟩
theorem ve_indexS {apos cpos : Pos} {t : PTR} (ho : VE Y o to) (ha : VR Y [e] t) (hbase : ∀ X : Cx, attributeBase o "index" X.env (eval o X.env) = eval o X.env := by intro _; rfl)
    (hfew : ∀ X : Cx, ((backTo cpos (starEach [e] X.env)).all (fun x => !x.1) && (backToKw cpos (keywordEach [] X.env)).all (fun x => x.1.isSome)
      && decide (([e] : List Expr).length + ([] : List Keyword).length + (if ([] : List Keyword).isEmpty then 0 else 1) < 30)) = true := by intro _; rfl)
    (hline : (apos.endLine == cpos.line) = true := by rfl) (hs : ∀ X : Cx, starEach [e] X.env = (false, eval e X.env) :: starEach [] X.env := by intro _; rfl) :
    VE Y (.Call (.Attribute o "index" apos) [e] [] cpos) (tMeth "str" pIndexS to t) :=
  ve_meth PySem.F.plainAttrs_str PySem.F.slot_str_index PySem.F.type_str_index (fun _ => mt_sindex) ref_indexS ho ha hbase hfew hline hs
/-- list.index(data) -/
def ixD (d : D) : List D → Nat
  | [] => 0
  | x :: xs => if D.eq x d = true then 0 else ixD d xs + 1
def pIndexL (d : D) (ds : List D) (Q : R → Prop) : Prop := match d, ds with
  | .lst l, [y] => y.ok 64 = true ∧ D.okL l 63 = true ∧ (l.any fun z => D.eq z y) = true ∧ Q (.d (.int (ixD y l)))
  | _, _ => False
theorem ixD_spec {y : D} (hy : y.ok 64 = true) : ∀ {l : List D}, D.okL l 63 = true → (l.any fun z => D.eq z y) = true → ∃ z, (D.pyL l)[ixD y l]? = some z ∧ PyData.eqv z y.py = true ∧ ∀ (m : Nat) (z' : PyData), m < ixD y l → (D.pyL l)[m]? = some z' → PyData.eqv z' y.py = false
  | [], _, h => by cases h
  | x :: xs, ok, h => by
    simp only [D.okL, Bool.and_eq_true] at ok
    unfold ixD
    have ex : PyData.eqv x.py y.py = D.eq x y := D.eqv_eq x y 63 64 ok.1 hy
    by_cases e : D.eq x y = true
    · rw [if_pos e]
      exact ⟨x.py, by simp [D.pyL], by rw [ex]; exact e, fun m z' hm => absurd hm (Nat.not_lt_zero _)⟩
    · rw [if_neg e]
      rw [List.any_cons, Bool.or_eq_true] at h
      rcases h with h | h
      · exact absurd h e
      · obtain ⟨z, h1, h2, h3⟩ := ixD_spec hy ok.2 h
        refine ⟨z, by simpa [D.pyL] using h1, h2, fun m z' hm hz => ?_⟩
        cases m with
        | zero =>
          have : z' = x.py := by simpa [D.pyL] using hz.symm
          rw [this, ex]
          simpa using e
        | succ m => exact h3 m z' (by omega) (by simpa [D.pyL] using hz)
theorem ref_indexL : MtRef "list" rIndexD pIndexL := by
  intro Γ σ κ H env v d vs ds Q Q' I hd hs q k
  match d, ds, vs, hd, hs, q with
  | .lst l, [y], _, hd, .cons hx .nil, q =>
    obtain ⟨q1, q2, q3, q4⟩ := q
    have okl : D.ok (.lst l) 64 = true := by simpa [D.ok] using q2
    obtain ⟨a1, a2⟩ := hd.dp okl
    obtain ⟨b1, b2⟩ := hx.dp q1
    obtain ⟨a, ws, rfl, _⟩ := hd
    obtain ⟨z, h1, h2, h3⟩ := ixD_spec q1 q2 q3
    exact ⟨a, _, y.py, D.pyL l, ixD y l, z, rfl, rfl, a1, b1, a2, b2, h1, h2, h3, k _ κ H (.d (.int (ixD y l))) (.refl ..) I (.int _) q4⟩
theorem ve_indexL {apos cpos : Pos} {t : PTR} (hu : Hu Y) (ho : VE Y o to) (ha : VR Y [e] t) (hbase : ∀ X : Cx, attributeBase o "index" X.env (eval o X.env) = eval o X.env := by intro _; rfl)
    (hfew : ∀ X : Cx, ((backTo cpos (starEach [e] X.env)).all (fun x => !x.1) && (backToKw cpos (keywordEach [] X.env)).all (fun x => x.1.isSome)
      && decide (([e] : List Expr).length + ([] : List Keyword).length + (if ([] : List Keyword).isEmpty then 0 else 1) < 30)) = true := by intro _; rfl)
    (hline : (apos.endLine == cpos.line) = true := by rfl) (hs : ∀ X : Cx, starEach [e] X.env = (false, eval e X.env) :: starEach [] X.env := by intro _; rfl) :
    VE Y (.Call (.Attribute o "index" apos) [e] [] cpos) (tMeth "list" pIndexL to t) :=
  ve_meth PySem.F.plainAttrs_list PySem.F.slot_list_index PySem.F.type_list_index (fun i => mt_indexD (hu i)) ref_indexL ho ha hbase hfew hline hs
end
end Pu
set_option maxRecDepth 100000
set_option maxHeartbeats 4000000
namespace Pu
open PySem L2
section
variable {Γ Γ' : Gm} {κ κ' : Ka} {H H' : Hp} {env env' : En} {σ : Sl} {v : V} {st : Sto} {Y : Fam} {a b e o : Expr} {es : List Expr} {ta tb te to : PTE} {pos : Pos}

/-! ### lists that are changed -/
def mget : R → En → Option (List D)
  | .nam i, e => match e.sl[i]? with
    | some (.own ds) => some ds
    | _ => none
  | .d (.ref k), e => match e.st[k]? with
    | some (.lst ds) => some ds
    | _ => none
  | _, _ => none
def mset : R → En → List D → En
  | .nam i, e, ds => e.setC i (.own ds)
  | .d (.ref k), e, ds => ⟨e.sl, e.st.set k (.lst ds)⟩
  | _, e, _ => e
theorem Gh.upd_obj {p : Addr} {k : Nat} {o : HO} {so : SO} (g : Gh Γ κ st H) (h : κ p = some (.obj k)) (hr : ∀ H', H' p = some o → Ext κ H κ H' → ObjR Γ κ H' p so) (hk : k < st.length) : Gh Γ κ (st.set k so) (L2.upd H p o) := by
  have x : Ext κ H κ (L2.upd H p o) := ⟨fun _ _ e => e, fun a e => upd_ne fun z => by rw [z, h] at e; cases e⟩
  refine ⟨g.sub, g.new, fun b y e => ?_, fun b e => ?_, fun b e => ?_, fun b j e => ?_, g.inj, fun b u e hk' => ?_⟩
  · by_cases hb : b = p
    · rw [hb, upd_same]; simp
    · rw [upd_ne hb]; exact g.trk b y e
  · by_cases hb : b = p
    · rw [hb, upd_same]; simp
    · rw [upd_ne hb]; exact g.trk0 b e
  · rw [upd_ne (fun z => by rw [z, h] at e; cases e)]; exact g.box b e
  · by_cases hb : b = p
    · subst hb
      rw [h] at e
      cases e
      exact ⟨so, by rw [List.getElem?_set_self hk], hr _ upd_same x⟩
    · have hj : j ≠ k := fun z => hb (g.inj b p k (z ▸ e) h)
      obtain ⟨so', h1, h2⟩ := g.obj b j e
      exact ⟨so', by rw [List.getElem?_set_ne (Ne.symm hj)]; exact h1, h2.ext x (upd_ne hb)⟩
  · by_cases hb : b = p
    · subst hb
      rcases g.new b _ h with z | z
      · rcases hk' with q | q <;> (rw [q] at z; cases z)
      · rw [e] at z; cases z
    · rw [upd_ne hb]; exact g.base b u e hk'
theorem mut_ok {r : R} {ds : List D} (I : Rl Γ κ env σ H) (h : HeldR Γ κ H σ v r) (e : mget r env = some ds) : ∃ a vs, v = .ref a ∧ H a = some (.lst vs) ∧ vs.length ≤ sizeLine ∧ RepL Γ.K Γ.cls κ H vs ds ∧
    ∀ vs' ds', vs'.length ≤ sizeLine → RepL Γ.K Γ.cls κ H vs' ds' → Ext κ H κ (upd H a (.lst vs')) ∧ Rl Γ κ (mset r env ds') σ (upd H a (.lst vs')) := by
  cases r with
  | nam i =>
    have h : σ[i]? = some (some v) := h
    unfold mget at e
    simp only at e
    cases q : env.sl[i]? with
    | none => rw [q] at e; cases e
    | some c =>
      have s := I.get q
      rw [q] at e
      cases c with
      | own ds' =>
        cases e
        obtain ⟨a, e1, k1, h0, vs, h2, h3, h4⟩ := s
        rw [h] at e1
        cases e1
        refine ⟨a, vs, rfl, h2, h3, h4, fun vs' ds' l' r' => ?_⟩
        have x : Ext κ H κ (L2.upd H a (.lst vs')) := Ext.upd k1
        have hi : i < env.sl.length := (List.getElem?_eq_some_iff.mp q).1
        have own_i : OwnS env σ i a := ⟨h, _, q, rfl⟩
        refine ⟨x, ⟨by rw [I.len]; simp [mset, En.setC], fun j c ec => ?_, fun j l b o1 o2 => ?_, I.gh.upd k1 h0⟩⟩
        · have ec : (env.sl.set i (C.own ds'))[j]? = some c := ec
          by_cases hj : j = i
          · subst hj
            rw [List.getElem?_set_self hi] at ec
            cases ec
            exact ⟨a, h, k1, h0, vs', upd_same, l', r'.mono x⟩
          · rw [List.getElem?_set_ne (Ne.symm hj)] at ec
            have s := I.get ec
            cases hc : c.isOwn with
            | true =>
              obtain ⟨b, e1, hb⟩ := s.own hc
              have hba : b ≠ a := fun z => hj (I.dist j i a ⟨z ▸ e1, c, ec, hc⟩ own_i)
              exact .mk e1 (hb.ext x hb.facts.1 (upd_ne hba))
            | false =>
              cases c with
              | un => trivial
              | d d => obtain ⟨v, e1, r⟩ := s; exact ⟨v, e1, r.mono x⟩
              | _ => cases hc
        · have old : ∀ m, OwnS (env.setC i (.own ds')) σ m b → OwnS env σ m b := fun m ⟨z1, c, z2, z3⟩ => by
            have z2 : (env.sl.set i (C.own ds'))[m]? = some c := z2
            by_cases hm : m = i
            · subst hm
              exact ⟨z1, _, q, rfl⟩
            · rw [List.getElem?_set_ne (Ne.symm hm)] at z2
              exact ⟨z1, c, z2, z3⟩
          exact I.dist j l b (old j o1) (old l o2)
      | _ => cases e
  | d d =>
    cases d with
    | ref k =>
      unfold mget at e
      simp only at e
      cases q : env.st[k]? with
      | none => rw [q] at e; cases e
      | some so =>
        rw [q] at e
        cases so with
        | lst ds' =>
          cases e
          cases h with
          | @ref a _ hk =>
            obtain ⟨so, g1, g2⟩ := I.gh.obj a k hk
            rw [q] at g1
            cases g1
            obtain ⟨vs, h2, h3, h4⟩ := g2
            refine ⟨a, vs, rfl, h2, h3, h4, fun vs' ds' l' r' => ?_⟩
            have x : Ext κ H κ (L2.upd H a (.lst vs')) := ⟨fun _ _ e => e, fun b e => upd_ne fun z => by rw [z, hk] at e; cases e⟩
            refine ⟨x, I.step x (fun i b hb => ?_) (I.gh.upd_obj (so := .lst ds') hk (fun H' e x' => ⟨vs', e, l', r'.mono x'⟩) (List.getElem?_eq_some_iff.mp q).1)⟩
            obtain ⟨c, _, hc⟩ := I.ownS hb
            exact ⟨hc.facts.1, upd_ne fun z => by have := hc.facts.1; rw [z, hk] at this; cases this⟩
        | _ => cases e
    | _ => cases e
  | own _ => cases e
  | dK _ => cases e
  | dT _ => cases e
abbrev PMu := List D → List D → (List D → D → Prop) → Prop
def MutRef (r : V → List V → Hp → VK → Prop) (p : PMu) : Prop :=
  ∀ (Γ : Gm) (κ : Ka) (H : Hp) (a : Addr) (vs ws : List V) (ds as : List D) (K : List D → D → Prop) (Q' : VK), H a = some (.lst vs) → vs.length ≤ sizeLine → RepL Γ.K Γ.cls κ H vs ds → RepL Γ.K Γ.cls κ H ws as → (κ a ≠ some .frz) → p ds as K →
    (∀ y vs' ds' dy, vs'.length ≤ sizeLine → RepL Γ.K Γ.cls κ H vs' ds' → Rep Γ.K Γ.cls κ H y dy → K ds' dy → Q' y (upd H a (.lst vs'))) → r (.ref a) ws H Q'
def tMut (p : PMu) (to : PTE) (t : PTA) : PTE := fun x e Q => to x e fun r e1 => hold r e1 fun r e1 => (mget r e1).isSome = true ∧ t x e1 fun as e2 => match mget r e2 with
  | some ds => p ds as fun ds' y => Q (.d y) (mset r e2 ds')
  | none => False
theorem mut_fin {r : V → List V → Hp → VK → Prop} {p : PMu} {R2' : R} {ws : List V} {as : List D} {Q : R → En → Prop} {Q' : VK} (hr : MutRef r p) (I : Rl Γ κ env σ H) (h : HeldR Γ κ H σ v R2') (ha : RepL Γ.K Γ.cls κ H ws as)
    (q : match mget R2' env with | some ds => p ds as fun ds' y => Q (.d y) (mset R2' env ds') | none => False)
    (k : ∀ v κ' H' r env', Ext κ H κ' H' → Rl Γ κ' env' σ H' → RelR Γ κ' H' env' σ v r → Q r env' → Q' v H') : r v ws H Q' := by
  cases e1 : mget R2' env with
  | none => rw [e1] at q; exact q.elim
  | some ds =>
    rw [e1] at q
    obtain ⟨a, vs, rfl, h1, h2, h3, h4⟩ := mut_ok I h e1
    refine hr Γ κ H a vs ws ds as _ Q' h1 h2 h3 ha ?_ q fun y vs' ds' dy l' r' ry q' => ?_
    · intro z
      cases R2' with
      | nam i =>
        have h : σ[i]? = some (some (V.ref a)) := h
        unfold mget at e1
        simp only at e1
        cases q : env.sl[i]? with
        | none => rw [q] at e1; cases e1
        | some c =>
          rw [q] at e1
          cases c with
          | own ds' =>
            obtain ⟨c, _, hc⟩ := I.ownS (i := i) (a := a) ⟨h, _, q, rfl⟩
            rw [hc.facts.1] at z; cases z
          | _ => cases e1
      | d d =>
        cases d with
        | ref k => cases h with | ref hk => rw [hk] at z; cases z
        | _ => cases e1
      | _ => cases e1
    · obtain ⟨x, J⟩ := h4 vs' ds' l' r'
      exact k y κ _ (.d dy) (mset R2' env ds') x J (ry.mono x) q'
theorem tyV_mut {r : R} (I : Rl Γ κ env σ H) (h : HeldR Γ κ H σ v r) (e : (mget r env).isSome = true) : tyV Γ.K "list" v H := by
  obtain ⟨ds, e1⟩ := Option.isSome_iff_exists.mp e
  obtain ⟨a, vs, rfl, h1, _⟩ := mut_ok I h e1
  exact .inl ⟨rfl, vs, SqL.of h1⟩
theorem ve_mut {id : String} {name : Str} {apos cpos : Pos} {r : V → List V → Hp → VK → Prop} {p : PMu} {t : PTA} (slot : Slot "list" name id) (hty : typeOf (.builtin id) = pure (.type "method_descriptor")) (hm : ∀ i, MtR (Y.X i) id r) (hr : MutRef r p) (ho : VE Y o to) (ha : VA Y (e :: es) t)
    (hbase : ∀ X : Cx, attributeBase o name X.env (eval o X.env) = eval o X.env := by intro _; rfl)
    (hfew : ∀ X : Cx, ((backTo cpos (starEach (e :: es) X.env)).all (fun x => !x.1) && (backToKw cpos (keywordEach [] X.env)).all (fun x => x.1.isSome)
      && decide ((e :: es).length + ([] : List Keyword).length + (if ([] : List Keyword).isEmpty then 0 else 1) < 30)) = true := by intro _; rfl)
    (hline : (apos.endLine == cpos.line) = true := by rfl) (hs : ∀ X : Cx, starEach (e :: es) X.env = (false, eval e X.env) :: starEach es X.env := by intro _; rfl) (hplain : ∀ X : Cx, (backTo cpos (starEach es X.env)).any (·.1) = false := by intro _; rfl) :
    VE Y (.Call (.Attribute o name apos) (e :: es) [] cpos) (tMut p to t) := by
  obtain ⟨ro, po, fo⟩ := ho.ex
  obtain ⟨ra, pa', fa⟩ := ha.ex
  refine ⟨⟨fun E => tBM Y.K "list" r (ro E) (ra E), fun i => ?_, fun Γ σ κ H env Q Q' hK I q k => ?_⟩⟩
  · have h2 := pe_bm PySem.F.plainAttrs_list slot hty (hm i) (po i) (pa' i) (hbase _) (hfew _) hline (hs _) (hplain _)
    rw [Y.hK i] at h2
    exact h2
  · refine fo Γ σ κ H env _ _ hK I q fun v κ1 H1 r1 e1 x1 I1 h1 q1 => ?_
    refine hold_ok I1 h1 q1 fun κ2 r2 x2 I2 h2 q2 => ?_
    rw [← hK.k]
    refine ⟨tyV_mut I2 h2 q2.1, fa Γ σ κ2 H1 e1 _ _ hK I2 q2.2 fun vs κ3 H3 as e3 x3 I3 h3 q3 => ?_⟩
    exact mut_fin hr I3 (h2.ext x3) h3 q3 fun v' κ' H' r e' x => k v' κ' H' r e' (((x1.trans x2).trans x3).trans x)
theorem ve_mut0 {id : String} {name : Str} {apos cpos : Pos} {r : V → List V → Hp → VK → Prop} {p : PMu} (slot : Slot "list" name id) (hty : typeOf (.builtin id) = pure (.type "method_descriptor")) (hm : ∀ i, MtR (Y.X i) id r) (hr : MutRef r p) (ho : VE Y o to)
    (hbase : ∀ X : Cx, attributeBase o name X.env (eval o X.env) = eval o X.env := by intro _; rfl) (hline : (apos.endLine == cpos.line) = true := by rfl) :
    VE Y (.Call (.Attribute o name apos) [] [] cpos) (tMut p to tNil) := by
  obtain ⟨ro, po, fo⟩ := ho.ex
  refine ⟨⟨fun E => tBM0 Y.K "list" r (ro E), fun i => ?_, fun Γ σ κ H env Q Q' hK I q k => ?_⟩⟩
  · have h2 := pe_bm0 PySem.F.plainAttrs_list slot hty (hm i) (po i) (hbase _) hline
    rw [Y.hK i] at h2
    exact h2
  · refine fo Γ σ κ H env _ _ hK I q fun v κ1 H1 r1 e1 x1 I1 h1 q1 => ?_
    refine hold_ok I1 h1 q1 fun κ2 r2 x2 I2 h2 q2 => ?_
    rw [← hK.k]
    refine ⟨tyV_mut I2 h2 q2.1, ?_⟩
    exact mut_fin hr I2 h2 (.nil) q2.2 fun v' κ' H' r e' x => k v' κ' H' r e' ((x1.trans x2).trans x)
def mAppend : PMu := fun ds as K => match as with
  | [y] => ds.length < sizeLine ∧ K (ds ++ [y]) .non
  | _ => False
theorem ref_append : MutRef rAppend mAppend := by
  intro Γ κ H a vs ws ds as K Q' h1 h2 h3 h4 hk q k
  match as, ws, h4, q with
  | [y], _, .cons (v := w) r .nil, q => exact ⟨a, vs, w, rfl, rfl, h1, by rw [h3.length]; exact q.1, k .non (vs ++ [w]) (ds ++ [y]) .non (by rw [List.length_append, h3.length]; exact q.1) (h3.append (.cons r .nil)) .non q.2⟩
@[irreducible] def mPop : PMu := fun ds as K => match as with
  | [] => match ds[ds.length - 1]? with
    | some y => K ds.dropLast y
    | none => False
  | _ => False
theorem ref_pop : MutRef rPop mPop := by
  intro Γ κ H a vs ws ds as K Q' h1 h2 h3 h4 hk q k
  unfold mPop at q
  match as, ws, h4, q with
  | [], _, .nil, q =>
    simp only at q
    cases e : ds[ds.length - 1]? with
    | none => rw [e] at q; exact q.elim
    | some y =>
      rw [e] at q
      obtain ⟨w, e1, r⟩ := h3.get e
      exact ⟨a, vs, w, rfl, rfl, h1, by rw [h3.length]; exact e1, k w vs.dropLast ds.dropLast y (by rw [List.length_dropLast]; omega) h3.dropLast r q⟩
@[irreducible] def mPopAt : PMu := fun ds as K => match as with
  | [.int i] => match ixN ds.length i with
    | some j => match ds[j]? with
      | some y => K (ds.eraseIdx j) y
      | none => False
    | none => False
  | _ => False
theorem ref_popAt : MutRef rPopAt mPopAt := by
  intro Γ κ H a vs ws ds as K Q' h1 h2 h3 h4 hk q k
  unfold mPopAt at q
  match as, ws, h4, q with
  | [.int i], _, .cons r .nil, q =>
    cases r
    simp only at q
    cases e : ixN ds.length i with
    | none => rw [e] at q; exact q.elim
    | some j =>
      rw [e] at q
      simp only at q
      cases e2 : ds[j]? with
      | none => rw [e2] at q; exact q.elim
      | some y =>
        rw [e2] at q
        obtain ⟨s1, s2, s3, s4⟩ := ixN_seq e
        obtain ⟨w, e3, rw'⟩ := h3.get e2
        have hl := line63
        have hl2 := h3.length
        exact ⟨a, vs, i, j, w, rfl, rfl, h1, by omega, by omega, by rw [h3.length]; exact s1, e3, k w (vs.eraseIdx j) (ds.eraseIdx j) y (Nat.le_trans (List.length_eraseIdx_le ..) h2) (h3.eraseIdx j) rw' q⟩
def mExtend : PMu := fun ds as K => match as with
  | [.lst zs] => ds.length + zs.length ≤ sizeLine ∧ K (ds ++ zs) .non
  | _ => False
theorem ref_extend : MutRef rExtend mExtend := by
  intro Γ κ H a vs ws ds as K Q' h1 h2 h3 h4 hk q k
  match as, ws, h4, q with
  | [.lst zs], _, .cons r .nil, q =>
    cases r with
    | @lst b us _ g1 g2 g3 g4 => exact ⟨a, b, vs, us, rfl, rfl, h1, g2, by rw [h3.length, g4.length]; exact q.1, k .non (vs ++ us) (ds ++ zs) .non (by rw [List.length_append, h3.length, g4.length]; exact q.1) (h3.append g4) .non q.2⟩
def mInsert : PMu := fun ds as K => match as with
  | [.int i, y] => ds.length < sizeLine ∧ 0 ≤ i ∧ i < 2 ^ 63 ∧ K (ds.take i.toNat ++ [y] ++ ds.drop i.toNat) .non
  | _ => False
def rInsert : V → List V → Hp → VK → Prop := fun x vs H Q => ∃ (l : Addr) (xs : List V) (i : Int) (y : V), x = .ref l ∧ vs = [.int i, y] ∧ H l = some (.lst xs) ∧ xs.length < sizeLine ∧ 0 ≤ i ∧ i < 2 ^ 63 ∧ Q .non (upd H l (.lst (xs.take i.toNat ++ [y] ++ xs.drop i.toNat)))
theorem ref_insert : MutRef rInsert mInsert := by
  intro Γ κ H a vs ws ds as K Q' h1 h2 h3 h4 hk q k
  match as, ws, h4, q with
  | [.int i, y], _, .cons r (.cons (v := w) r2 .nil), q =>
    cases r
    obtain ⟨q1, q2, q3, q4⟩ := q
    refine ⟨a, vs, i, w, rfl, rfl, h1, by rw [h3.length]; exact q1, q2, q3, k .non _ _ .non ?_ (((h3.take i.toNat).append (.cons r2 .nil)).append (h3.drop i.toNat)) .non q4⟩
    have := h3.length
    simp only [List.length_append, List.length_take, List.length_drop, List.length_singleton]
    omega
def mReverse : PMu := fun ds as K => match as with
  | [] => K ds.reverse .non
  | _ => False
theorem ref_reverse : MutRef rReverse mReverse := by
  intro Γ κ H a vs ws ds as K Q' h1 h2 h3 h4 hk q k
  match as, ws, h4, q with
  | [], _, .nil, q => exact ⟨a, vs, rfl, rfl, h1, k .non vs.reverse ds.reverse .non (by rw [List.length_reverse]; exact h2) h3.reverse .non q⟩
section
variable {apos cpos : Pos} {t : PTA}
variable (hbase : ∀ (n : Str) (X : Cx), attributeBase o n X.env (eval o X.env) = eval o X.env)
theorem ve_append (ho : VE Y o to) (ha : VA Y [e] t) (hbase : ∀ X : Cx, attributeBase o "append" X.env (eval o X.env) = eval o X.env := by intro _; rfl)
    (hfew : ∀ X : Cx, ((backTo cpos (starEach [e] X.env)).all (fun x => !x.1) && (backToKw cpos (keywordEach [] X.env)).all (fun x => x.1.isSome)
      && decide (([e] : List Expr).length + ([] : List Keyword).length + (if ([] : List Keyword).isEmpty then 0 else 1) < 30)) = true := by intro _; rfl)
    (hline : (apos.endLine == cpos.line) = true := by rfl) (hs : ∀ X : Cx, starEach [e] X.env = (false, eval e X.env) :: starEach [] X.env := by intro _; rfl) : VE Y (.Call (.Attribute o "append" apos) [e] [] cpos) (tMut mAppend to t) :=
  ve_mut PySem.F.slot_list_append PySem.F.type_list_append (fun _ => mt_append) ref_append ho ha hbase hfew hline hs
theorem ve_extend (ho : VE Y o to) (ha : VA Y [e] t) (hbase : ∀ X : Cx, attributeBase o "extend" X.env (eval o X.env) = eval o X.env := by intro _; rfl)
    (hfew : ∀ X : Cx, ((backTo cpos (starEach [e] X.env)).all (fun x => !x.1) && (backToKw cpos (keywordEach [] X.env)).all (fun x => x.1.isSome)
      && decide (([e] : List Expr).length + ([] : List Keyword).length + (if ([] : List Keyword).isEmpty then 0 else 1) < 30)) = true := by intro _; rfl)
    (hline : (apos.endLine == cpos.line) = true := by rfl) (hs : ∀ X : Cx, starEach [e] X.env = (false, eval e X.env) :: starEach [] X.env := by intro _; rfl) : VE Y (.Call (.Attribute o "extend" apos) [e] [] cpos) (tMut mExtend to t) :=
  ve_mut PySem.F.slot_list_extend PySem.F.type_list_extend (fun _ => mt_extend) ref_extend ho ha hbase hfew hline hs
theorem ve_popAt (ho : VE Y o to) (ha : VA Y [e] t) (hbase : ∀ X : Cx, attributeBase o "pop" X.env (eval o X.env) = eval o X.env := by intro _; rfl)
    (hfew : ∀ X : Cx, ((backTo cpos (starEach [e] X.env)).all (fun x => !x.1) && (backToKw cpos (keywordEach [] X.env)).all (fun x => x.1.isSome)
      && decide (([e] : List Expr).length + ([] : List Keyword).length + (if ([] : List Keyword).isEmpty then 0 else 1) < 30)) = true := by intro _; rfl)
    (hline : (apos.endLine == cpos.line) = true := by rfl) (hs : ∀ X : Cx, starEach [e] X.env = (false, eval e X.env) :: starEach [] X.env := by intro _; rfl) : VE Y (.Call (.Attribute o "pop" apos) [e] [] cpos) (tMut mPopAt to t) :=
  ve_mut PySem.F.slot_list_pop PySem.F.type_list_pop (fun _ => mt_popAt) ref_popAt ho ha hbase hfew hline hs
theorem ve_insert {e2 : Expr} (ho : VE Y o to) (ha : VA Y [e, e2] t) (hbase : ∀ X : Cx, attributeBase o "insert" X.env (eval o X.env) = eval o X.env := by intro _; rfl)
    (hfew : ∀ X : Cx, ((backTo cpos (starEach [e, e2] X.env)).all (fun x => !x.1) && (backToKw cpos (keywordEach [] X.env)).all (fun x => x.1.isSome)
      && decide (([e, e2] : List Expr).length + ([] : List Keyword).length + (if ([] : List Keyword).isEmpty then 0 else 1) < 30)) = true := by intro _; rfl)
    (hline : (apos.endLine == cpos.line) = true := by rfl) (hs : ∀ X : Cx, starEach [e, e2] X.env = (false, eval e X.env) :: starEach [e2] X.env := by intro _; rfl) (hpl : ∀ X : Cx, (backTo cpos (starEach [e2] X.env)).any (·.1) = false := by intro _; rfl) : VE Y (.Call (.Attribute o "insert" apos) [e, e2] [] cpos) (tMut mInsert to t) :=
  ve_mut PySem.F.slot_list_insert PySem.F.type_list_insert (fun _ => mt_insert) ref_insert ho ha hbase hfew hline hs hpl
theorem ve_pop (ho : VE Y o to) (hbase : ∀ X : Cx, attributeBase o "pop" X.env (eval o X.env) = eval o X.env := by intro _; rfl) (hline : (apos.endLine == cpos.line) = true := by rfl) : VE Y (.Call (.Attribute o "pop" apos) [] [] cpos) (tMut mPop to tNil) :=
  ve_mut0 PySem.F.slot_list_pop PySem.F.type_list_pop (fun _ => mt_pop) ref_pop ho hbase hline
theorem ve_reverse (ho : VE Y o to) (hbase : ∀ X : Cx, attributeBase o "reverse" X.env (eval o X.env) = eval o X.env := by intro _; rfl) (hline : (apos.endLine == cpos.line) = true := by rfl) : VE Y (.Call (.Attribute o "reverse" apos) [] [] cpos) (tMut mReverse to tNil) :=
  ve_mut0 PySem.F.slot_list_reverse PySem.F.type_list_reverse (fun _ => mt_reverse) ref_reverse ho hbase hline
end
/-! ### more built-ins -/
/-- list(x) -/
def pList : List D → (R → Prop) → Prop
  | [.lst ds], Q => Q (.own ds)
  | [.tup ds], Q => Q (.own ds)
  | [.str s], Q => Q (.own (signs s))
  | _, _ => False
def rListAll (K : PySem.W.Frag) : List V → Hp → VK → Prop := fun xs H Q => (∃ p ys, xs = [.ref p] ∧ (SqL K H p ys ∨ SqT K H p ys) ∧ ∀ l, H l = none → Q (.ref l) (upd H l (.lst ys))) ∨
  ∃ x : Str, xs = [.str x] ∧ x.length ≤ sizeLine ∧ ∀ l, H l = none → Q (.ref l) (upd H l (.lst (x.cps.toList.map fun c => V.str ⟨#[c]⟩)))
theorem call_listAll {X : Cx} (hc : X.calm = true) : CallR X (.type "list") (rListAll X.K) := CallR.or call_list_of (PuE.call_listS hc)
theorem signs_rep {s : List Nat} (hs : ∀ c ∈ s, c < 1114112) : RepL Γ.K Γ.cls κ H (s.map fun c => V.str ⟨#[c]⟩) (signs s) := by
  induction s with
  | nil => exact .nil
  | cons c s ih => exact .cons (.str [c] ⟨by show 1 ≤ sizeLine; decide, fun d hd => by
      have : d = c := by simpa using hd
      rw [this]; exact hs c (by simp)⟩) (ih fun d hd => hs d (List.mem_cons_of_mem _ hd))
theorem signs_length (s : List Nat) : (signs s).length = s.length := by unfold signs; rw [List.length_map]
theorem ref_list : CallRef rListAll pList := by
  intro Γ σ κ H env vs ds Q Q' I h q k
  match ds, vs, h, q with
  | [.lst ds], _, .cons h .nil, q =>
    obtain ⟨a, ws, rfl, h1, h2, h3⟩ := h
    exact .inl ⟨a, ws, rfl, .inl (SqL.of h1), fun l hl => k _ κ _ (.own ds) (Ext.upd_new I.gh hl) (I.upd_new hl) (new_lst I hl h2 h3) q⟩
  | [.tup ds], _, .cons h .nil, q =>
    obtain ⟨a, ws, rfl, h1, h2, h3⟩ := Rep.sqT h
    exact .inl ⟨a, ws, rfl, .inr h1, fun l hl => k _ κ _ (.own ds) (Ext.upd_new I.gh hl) (I.upd_new hl) (new_lst I hl h2 h3) q⟩
  | [.str s], _, .cons h .nil, q =>
    obtain ⟨rfl, hs⟩ := Rep.strE h
    refine .inr ⟨_, rfl, by rw [str_len]; exact hs.1, fun l hl => ?_⟩
    have hl2 : (s.map fun c => V.str ⟨#[c]⟩).length ≤ sizeLine := by rw [List.length_map]; exact hs.1
    exact k _ κ _ (.own (signs s)) (Ext.upd_new I.gh hl) (I.upd_new hl) (new_lst I hl hl2 (signs_rep hs.2)) q
theorem ve_list {p' : Pos} {t : PTR} (hm : ∀ i, (Y.X i).mg "list" = none) (ha : VR Y [e] t) (hc : ∀ i, (Y.X i).calm = true := by intro _; rfl) (hg : ∀ i, Gl (Y.X i) "list" := by intro _; rfl) (he : ∀ X : Cx, starEach [e] X.env = (false, eval e X.env) :: starEach [] X.env := by intro _; rfl) : VE Y (.Call (.Name "list" p') [e] [] pos) (tCallP pList t) :=
  ve_callTy (fun i => call_listAll (hc i)) ref_list hm ha hg (he := he)
/-- tuple(x) -/
def pTuple : List D → (R → Prop) → Prop
  | [.lst ds], Q => Q (.d (.tup ds))
  | [.tup ds], Q => Q (.d (.tup ds))
  | _, _ => False
def rTuple (K : PySem.W.Frag) : List V → Hp → VK → Prop := fun xs H Q => ∃ p ys, xs = [.ref p] ∧ ((SqL K H p ys ∧ ∀ l, H l = none → Q (.ref l) (upd H l (.tup ys))) ∨ (SqT K H p ys ∧ Q (.ref p) H))
theorem ref_tuple : CallRef rTuple pTuple := by
  intro Γ σ κ H env vs ds Q Q' I h q k
  match ds, vs, h, q with
  | [.lst ds], _, .cons h .nil, q =>
    obtain ⟨a, ws, rfl, h1, h2, h3⟩ := h
    refine ⟨a, ws, rfl, .inl ⟨SqL.of h1, fun l hl => ?_⟩⟩
    obtain ⟨x1, I1, r1⟩ := new_tup I hl h2 h3
    exact k _ _ _ (.d (.tup ds)) x1 I1 r1 q
  | [.tup ds], _, .cons h .nil, q =>
    have h0 : Rep Γ.K Γ.cls κ H _ (.tup ds) := h
    obtain ⟨a, ws, rfl, h1, h2, h3⟩ := Rep.sqT h
    exact ⟨a, ws, rfl, .inr ⟨h1, k _ κ H (.d (.tup ds)) (.refl ..) I h0 q⟩⟩
theorem ve_tuple {p' : Pos} {t : PTR} (hm : ∀ i, (Y.X i).mg "tuple" = none) (ha : VR Y [e] t) (hg : ∀ i, Gl (Y.X i) "tuple" := by intro _; rfl) (he : ∀ X : Cx, starEach [e] X.env = (false, eval e X.env) :: starEach [] X.env := by intro _; rfl) : VE Y (.Call (.Name "tuple" p') [e] [] pos) (tCallP pTuple t) :=
  ve_callTy (r := rTuple) (fun i => call_tuple_of) ref_tuple hm ha hg (he := he)
/-- min, max of two ints -/
def pMin2 : List D → (R → Prop) → Prop
  | [.int i, .int j], Q => Q (.d (.int (if j < i then j else i)))
  | _, _ => False
def pMax2 : List D → (R → Prop) → Prop
  | [.int i, .int j], Q => Q (.d (.int (if j > i then j else i)))
  | _, _ => False
theorem ref_min2 : CallRef (fun _ xs H Q => ∃ i j, xs = [.int i, .int j] ∧ Q (.int (if j < i then j else i)) H) pMin2 := by
  intro Γ σ κ H env vs ds Q Q' I h q k
  match ds, vs, h, q with
  | [.int i, .int j], _, .cons h (.cons h' .nil), q =>
    cases h; cases h'
    exact ⟨i, j, rfl, k _ κ H (.d (.int _)) (.refl ..) I (.int _) q⟩
theorem ref_max2 : CallRef (fun _ xs H Q => ∃ i j, xs = [.int i, .int j] ∧ Q (.int (if j > i then j else i)) H) pMax2 := by
  intro Γ σ κ H env vs ds Q Q' I h q k
  match ds, vs, h, q with
  | [.int i, .int j], _, .cons h (.cons h' .nil), q =>
    cases h; cases h'
    exact ⟨i, j, rfl, k _ κ H (.d (.int _)) (.refl ..) I (.int _) q⟩
theorem ve_min2 {p' : Pos} {t : PTR} (hm : ∀ i, (Y.X i).mg "min" = none) (ha : VR Y [a, b] t) (hc : ∀ i, (Y.X i).calm = true := by intro _; rfl) (hg : ∀ i, Gl (Y.X i) "min" := by intro _; rfl) (he : ∀ X : Cx, starEach [a, b] X.env = (false, eval a X.env) :: starEach [b] X.env := by intro _; rfl) (hpl : ∀ X : Cx, (backTo pos (starEach [b] X.env)).any (·.1) = false := by intro _; rfl) : VE Y (.Call (.Name "min" p') [a, b] [] pos) (tCallP pMin2 t) :=
  ve_callB (fun i => call_min2 (hc i)) ref_min2 hm ha hg (he := he) (hpl := hpl)
theorem ve_max2 {p' : Pos} {t : PTR} (hm : ∀ i, (Y.X i).mg "max" = none) (ha : VR Y [a, b] t) (hc : ∀ i, (Y.X i).calm = true := by intro _; rfl) (hg : ∀ i, Gl (Y.X i) "max" := by intro _; rfl) (he : ∀ X : Cx, starEach [a, b] X.env = (false, eval a X.env) :: starEach [b] X.env := by intro _; rfl) (hpl : ∀ X : Cx, (backTo pos (starEach [b] X.env)).any (·.1) = false := by intro _; rfl) : VE Y (.Call (.Name "max" p') [a, b] [] pos) (tCallP pMax2 t) :=
  ve_callB (fun i => call_max2 (hc i)) ref_max2 hm ha hg (he := he) (hpl := hpl)
/-- all, any of a list of bools -/
def blL : List D → Option (List Bool)
  | [] => some []
  | .bl b :: ds => match blL ds with
    | some r => some (b :: r)
    | none => none
  | _ => none
theorem blL_rep : ∀ {ds : List D} {vs : List V} {r : List Bool}, RepL Γ.K Γ.cls κ H vs ds → blL ds = some r → vs = r.map V.bl
  | [], _, _, h, e => by cases h; cases e; rfl
  | .bl b :: ds, _, _, .cons h1 h2, e => by
    unfold blL at e
    cases q : blL ds with
    | none => rw [q] at e; cases e
    | some r' => rw [q] at e; cases e; cases h1; rw [blL_rep h2 q]; rfl
  | .non :: _, _, _, _, e => by simp [blL] at e
  | .str _ :: _, _, _, _, e => by simp [blL] at e
  | .int _ :: _, _, _, _, e => by simp [blL] at e
  | .tup _ :: _, _, _, _, e => by simp [blL] at e
  | .lst _ :: _, _, _, _, e => by simp [blL] at e
  | .scr _ :: _, _, _, _, e => by simp [blL] at e
  | .box :: _, _, _, _, e => by simp [blL] at e
  | .ref _ :: _, _, _, _, e => by simp [blL] at e
  | .cls _ :: _, _, _, _, e => by simp [blL] at e
  | .exc _ _ _ :: _, _, _, _, e => by simp [blL] at e
@[irreducible] def pAll : List D → (R → Prop) → Prop
  | [.lst ds], Q => match blL ds with
    | some r => Q (.d (.bl (r.all id)))
    | none => False
  | _, _ => False
@[irreducible] def pAny : List D → (R → Prop) → Prop
  | [.lst ds], Q => match blL ds with
    | some r => Q (.d (.bl (r.any id)))
    | none => False
  | _, _ => False
theorem ref_all : CallRef rAll pAll := by
  intro Γ σ κ H env vs ds Q Q' I h q k
  unfold pAll at q
  match ds, vs, h, q with
  | [.lst ds], _, .cons h .nil, q =>
    obtain ⟨a, ws, rfl, h1, h2, h3⟩ := h
    simp only at q
    cases e : blL ds with
    | none => rw [e] at q; exact q.elim
    | some r =>
      rw [e] at q
      refine ⟨a, r, rfl, ?_, k _ κ H (.d (.bl _)) (.refl ..) I (.bl _) q⟩
      rw [← blL_rep h3 e]
      exact SqL.of h1
theorem ref_any : CallRef rAny pAny := by
  intro Γ σ κ H env vs ds Q Q' I h q k
  unfold pAny at q
  match ds, vs, h, q with
  | [.lst ds], _, .cons h .nil, q =>
    obtain ⟨a, ws, rfl, h1, h2, h3⟩ := h
    simp only at q
    cases e : blL ds with
    | none => rw [e] at q; exact q.elim
    | some r =>
      rw [e] at q
      refine ⟨a, r, rfl, ?_, k _ κ H (.d (.bl _)) (.refl ..) I (.bl _) q⟩
      rw [← blL_rep h3 e]
      exact SqL.of h1
theorem ve_all {p' : Pos} {t : PTR} (hm : ∀ i, (Y.X i).mg "all" = none) (ha : VR Y [e] t) (hc : ∀ i, (Y.X i).calm = true := by intro _; rfl) (hg : ∀ i, Gl (Y.X i) "all" := by intro _; rfl) (he : ∀ X : Cx, starEach [e] X.env = (false, eval e X.env) :: starEach [] X.env := by intro _; rfl) : VE Y (.Call (.Name "all" p') [e] [] pos) (tCallP pAll t) :=
  ve_callB (fun i => cr_all (hc i)) ref_all hm ha hg (he := he)
theorem ve_any {p' : Pos} {t : PTR} (hm : ∀ i, (Y.X i).mg "any" = none) (ha : VR Y [e] t) (hc : ∀ i, (Y.X i).calm = true := by intro _; rfl) (hg : ∀ i, Gl (Y.X i) "any" := by intro _; rfl) (he : ∀ X : Cx, starEach [e] X.env = (false, eval e X.env) :: starEach [] X.env := by intro _; rfl) : VE Y (.Call (.Name "any" p') [e] [] pos) (tCallP pAny t) :=
  ve_callB (fun i => cr_any (hc i)) ref_any hm ha hg (he := he)
/-- int(b), int(n) -/
def pInt : List D → (R → Prop) → Prop
  | [.int i], Q => Q (.d (.int i))
  | [.bl b], Q => Q (.d (.int (if b then 1 else 0)))
  | _, _ => False
theorem ref_int : CallRef (fun _ xs H Q => (∃ i, xs = [.int i] ∧ Q (.int i) H) ∨ ∃ k, xs = [.bl k] ∧ Q (.int (if k then 1 else 0)) H) pInt := by
  intro Γ σ κ H env vs ds Q Q' I h q k
  match ds, vs, h, q with
  | [.int i], _, .cons h .nil, q => cases h; exact .inl ⟨i, rfl, k _ κ H (.d (.int _)) (.refl ..) I (.int _) q⟩
  | [.bl b], _, .cons h .nil, q => cases h; exact .inr ⟨b, rfl, k _ κ H (.d (.int _)) (.refl ..) I (.int _) q⟩
theorem ve_int1 {p' : Pos} {t : PTR} (hm : ∀ i, (Y.X i).mg "int" = none) (ha : VR Y [e] t) (hg : ∀ i, Gl (Y.X i) "int" := by intro _; rfl) (he : ∀ X : Cx, starEach [e] X.env = (false, eval e X.env) :: starEach [] X.env := by intro _; rfl) : VE Y (.Call (.Name "int" p') [e] [] pos) (tCallP pInt t) :=
  ve_callTy (fun i => call_int1) ref_int hm ha hg (he := he)
/-- reversed(text) -/
def iRevP (te : PTE) : PTI := fun x e Q => te x e fun r e1 => fz r e1 fun d e2 => match d with
  | .str s => Q (signs s).reverse e2
  | _ => False
theorem src_rev {K : PySem.W.Frag} {cl : Nat → Addr} {s : List Nat} (hs : SOk s) : Src K cl κ H (PuE.ItvS ⟨s.toArray⟩) (signs s).reverse := by
  intro Γ2 hK hc σ κ1 H1 env i I x
  have hl : (signs s).length = s.length := signs_length s
  refine ⟨fun d e => ?_, fun e => ?_⟩
  · have hi : i < s.length := by
      have := (List.getElem?_eq_some_iff.mp e).1
      rw [List.length_reverse] at this
      omega
    rw [List.getElem?_reverse (by rw [hl]; exact hi), hl] at e
    unfold signs at e
    rw [List.getElem?_map] at e
    cases q : s[s.length - 1 - i]? with
    | none => rw [q] at e; cases e
    | some c =>
      rw [q] at e
      cases e
      refine ⟨by show i < (⟨s.toArray⟩ : Str).length; rw [str_len]; exact hi, fun v H' y => ?_⟩
      obtain ⟨rfl, c', e1, rfl⟩ := y
      rw [str_len] at e1
      have e1 : s.toArray[s.length - 1 - i]? = some c' := e1
      rw [List.getElem?_toArray, q] at e1
      cases e1
      exact ⟨κ1, .refl .., I, .str _ (hs.one (List.mem_of_getElem? q))⟩
  · show (⟨s.toArray⟩ : Str).length ≤ i
    rw [str_len, ← e, List.length_reverse, hl]
    exact Nat.le_refl _
theorem vi_revS {tg : Expr} {p : Pos} (hm : ∀ i, (Y.X i).mg "reversed" = none) (he : VE Y e te) (hg : ∀ i, Gl (Y.X i) "reversed" := by intro _; rfl) (hs : ∀ X : Cx, starEach [e] X.env = (false, eval e X.env) :: starEach [] X.env := by intro _; rfl) : VI Y tg (.Call (.Name "reversed" p) [e] [] pos) (iRevP te) := by
  obtain ⟨ra, pa, fa⟩ := he.ex
  refine ⟨⟨fun E => PuE.iRevS (ra E), fun i => PuE.pi_revS (hg i) (hm i) (pa i) (hs _), fun Γ σ κ H env Q Q' hK I q k => ?_⟩⟩
  refine fa Γ σ κ H env _ _ hK I q fun v κ1 H1 r1 e1 x1 I1 h1 q1 => ?_
  refine fz_ok I1 h1 q1 fun κ2 d e2 x2 I2 h2 q2 => ?_
  cases d with
  | str s =>
    obtain ⟨rfl, hs⟩ := h2.strE
    exact ⟨_, rfl, by rw [str_len]; exact hs.1, k _ κ2 H1 _ e2 (x1.trans x2) I2 (src_rev hs) q2⟩
  | _ => exact False.elim q2
/-- isinstance(x, a built-in type) -/
def D.tyN : D → Option String
  | .non => some "NoneType"
  | .bl _ => some "bool"
  | .int _ => some "int"
  | .str _ => some "str"
  | .lst _ => some "list"
  | .tup _ => some "tuple"
  | _ => none
def tIsi (T : String) (te : PTE) : PTE := fun x e Q => te x e fun r e1 => match rv r e1 with
  | some d => match d.tyN with
    | some u => match kitB u T with
      | some b => Q (.d (.bl b)) e1
      | none => False
    | none => False
  | none => False
theorem ve_isi {T : String} {x2 : Str} {p' p2 : Pos} (hm : ∀ i, (Y.X i).mg "isinstance" = none) (hm2 : ∀ i, (Y.X i).mg x2 = none) (he : VE Y e te) (hv2 : bootBuiltins x2 = some (.type T) := by decide +kernel) (hg : ∀ i, Gl (Y.X i) "isinstance" := by intro _; rfl) (hg2 : ∀ i, Gl (Y.X i) x2 := by intro _; rfl)
    (hn2 : x2 ≠ "__name__" := by decide) (hd2 : (x2 == ("__debug__" : Str)) = false := by decide)
    (hs : ∀ X : Cx, starEach [e, .Name x2 p2] X.env = (false, eval e X.env) :: starEach [.Name x2 p2] X.env := by intro _; rfl) (hpl : ∀ X : Cx, (backTo pos (starEach [.Name x2 p2] X.env)).any (·.1) = false := by intro _; rfl) : VE Y (.Call (.Name "isinstance" p') [e, .Name x2 p2] [] pos) (tIsi T te) := by
  obtain ⟨ra, pa, fa⟩ := he.ex
  refine ⟨⟨fun E => tCB (rIsi Y.K) (L2.tCons (ra E) (L2.tCons (tC (.ty T)) L2.tNil)), fun i => ?_, fun Γ σ κ H env Q Q' hK I q k => ?_⟩⟩
  · have h1 : CallR (Y.X i) (.builtin "isinstance") (rIsi Y.K) := by have := call_isi (X := Y.X i); rw [Y.hK i] at this; exact this
    exact pe_callB h1 (hg i) (hm i) (by decide +kernel) (pa_cons (pa i) (pa_cons (pe_bltn (hg2 i) (hm2 i) hv2 rfl hn2 hd2) pa_nil) (hs _)) (by decide) (by decide) (hs _) (hpl _)
  · refine fa Γ σ κ H env _ _ hK I q fun v κ1 H1 r1 e1 x1 I1 h1 q1 => ?_
    cases e' : rv r1 e1 with
    | none => rw [e'] at q1; exact q1.elim
    | some d =>
      rw [e'] at q1
      simp only at q1
      have rt := rv_ok I1 h1 e'
      cases e2 : d.tyN with
      | none => rw [e2] at q1; exact q1.elim
      | some u =>
        rw [e2] at q1
        simp only at q1
        cases e3 : kitB u T with
        | none => rw [e3] at q1; exact q1.elim
        | some b =>
          rw [e3] at q1
          have ty : TyX Y.K H1 v (.type u) := by
            cases d with
            | non => cases e2; cases rt; exact .base .non
            | bl b => cases e2; cases rt; exact .base (.bl b)
            | int i => cases e2; cases rt; exact .base (.int i)
            | str s => cases e2; obtain ⟨rfl, _⟩ := Rep.strE rt; exact .base (.str _)
            | lst ds => cases e2; obtain ⟨a, ws, rfl, g1, _⟩ := rt; exact .base (.lst g1)
            | tup ds =>
              cases e2
              have rt : Rep Γ.K Γ.cls κ1 H1 v (.tup ds) := rt
              cases rt with
              | tup g1 _ _ =>
                rcases g1 with ⟨_, g1⟩ | ⟨o, its, n, g1, g2, _⟩
                · exact .base (.tup g1)
                · rw [hK.k] at g1; exact .kTuple g1 g2
            | _ => cases e2
          exact ⟨v, .ty T, .type u, .type T, b, rfl, .ty T, ty, kit_ty e3, k _ κ1 H1 (.d (.bl b)) e1 x1 I1 (.bl b) q1⟩
end
end Pu
set_option maxRecDepth 100000
set_option maxHeartbeats 1000000
/-! text * int -/
namespace PuE
open PySem L2 PySem.Spec PyProof.Rows
def rRepS : R2 := fun x y H Q => ∃ (s : List Nat) (k : Int), x = .str ⟨s.toArray⟩ ∧ y = .int k ∧ -(2 ^ 63) ≤ k ∧ k < 2 ^ 63 ∧ s.length * k.toNat ≤ 16777216 ∧ Q (.str ⟨(List.replicate k.toNat s).flatten.toArray⟩) H
theorem fold_rep (s : List Nat) : ∀ (m : Nat) (acc : List Nat), (List.replicate m s.toArray).foldl (· ++ ·) acc.toArray = (acc ++ (List.replicate m s).flatten).toArray
  | 0, acc => by simp
  | m + 1, acc => by
    rw [List.replicate_succ, List.foldl_cons, List.append_toArray, fold_rep s m, List.replicate_succ, List.flatten_cons, List.append_assoc]
theorem op_repS {X : Cx} : OpR X (binaryOp .Mult) rRepS := by
  intro pins s σ H x y v u Q I rx ry h
  obtain ⟨l, k, rfl, rfl, h1, h2, hz, q⟩ := h
  obtain ⟨t, rfl⟩ := rx
  obtain ⟨t', rfl⟩ := ry
  have hline : (sizeLine : Nat) = 16777216 := sizeLine_eq
  have hlen : (⟨l.toArray⟩ : Str).length = l.length := rfl
  refine PySem.P.mul_str ?_ ?_ ?_ ?_
  · rw [decide_eq_false (by omega), decide_eq_false (by omega)]; rfl
  · intro hk hn
    rw [hlen]
    intro z
    have hk1 : 1 ≤ k := by omega
    have h3 : (l.length : Int) * k ≤ 16777216 := by
      have : ((l.length * k.toNat : Nat) : Int) ≤ 16777216 := by omega
      rw [Int.natCast_mul, Int.toNat_of_nonneg (by omega)] at this
      exact this
    have h4 : (l.length : Int) ≤ (2 ^ 63 - 1) / k := by
      rw [Int.le_ediv_iff_mul_le (by omega)]
      omega
    omega
  · intro hk hn
    rw [hlen]
    unfold Builtin.Str.tooLong
    simp only [decide_eq_false_iff_not]
    omega
  · have fin : ∀ (y : Str) (s' : Shared), True := fun _ _ => trivial
    by_cases hk : k < 1
    · rw [if_pos hk]
      have e : k.toNat = 0 := by omega
      rw [e] at q
      exact ⟨by decide, .str ⟨([] : List Nat).toArray⟩, H, I.tok _, ⟨_, rfl⟩, q⟩
    · rw [if_neg hk]
      by_cases hb : (k == 1 || (⟨l.toArray⟩ : Str).length == 0) = true
      · rw [if_pos hb]
        have e : (List.replicate k.toNat l).flatten = l := by
          rw [Bool.or_eq_true] at hb
          rcases hb with hb | hb
          · have : k = 1 := by simpa using hb
            subst this
            simp
          · have : l = [] := by
              rw [hlen] at hb
              exact List.eq_nil_of_length_eq_zero (by simpa using hb)
            subst this
            simp
        rw [e] at q
        exact ⟨.str ⟨l.toArray⟩, H, I, ⟨_, rfl⟩, q⟩
      · rw [if_neg hb]
        have e : (⟨(List.replicate k.toNat (⟨l.toArray⟩ : Str).cps).foldl (· ++ ·) #[]⟩ : Str) = ⟨(List.replicate k.toNat l).flatten.toArray⟩ := by
          have := fold_rep l k.toNat []
          rw [List.nil_append] at this
          show (⟨(List.replicate k.toNat l.toArray).foldl (· ++ ·) ([] : List Nat).toArray⟩ : Str) = _
          rw [this]
        rw [e]
        refine ⟨?_, .str ⟨(List.replicate k.toNat l).flatten.toArray⟩, H, I.tok _, ⟨_, rfl⟩, q⟩
        show (List.replicate k.toNat l).flatten.toArray.size ≤ _
        rw [List.size_toArray, List.length_flatten, List.map_replicate, List.sum_replicate_nat, hline, Nat.mul_comm]
        exact hz
end PuE
set_option maxRecDepth 100000
set_option maxHeartbeats 4000000
namespace Pu
open PySem L2
section
variable {Γ Γ' : Gm} {κ κ' : Ka} {H H' : Hp} {env env' : En} {σ : Sl} {v : V} {st : Sto} {Y : Fam} {a b e o : Expr} {es : List Expr} {ta tb te to ti : PTE} {pos : Pos}

/-! ### products -/
def pMul (d e : D) (Q : R → Prop) : Prop := match d, e with
  | .int i, .int j => CMul i j ∧ Q (.d (.int (i * j)))
  | .lst xs, .int k => (-(2 ^ 63) ≤ k ∧ k < 2 ^ 63) ∧ xs.length * k.toNat ≤ sizeLine ∧ Q (.own (List.replicate k.toNat xs).flatten)
  | .str s, .int k => (-(2 ^ 63) ≤ k ∧ k < 2 ^ 63) ∧ s.length * k.toNat ≤ 16777216 ∧ Q (.d (.str (List.replicate k.toNat s).flatten))
  | _, _ => False
def rMulAll : PySem.W.Frag → R2 := fun _ x y H Q => rI CMul (fun i j => .int (i * j)) x y H Q ∨ rRep x y H Q ∨ PuE.rRepS x y H Q
theorem o_mul (X : Cx) : OpR X (binaryOp .Mult) (rMulAll X.K) := OpR.or op_mul (OpR.or op_rep PuE.op_repS)
theorem ref_mul : OpRef rMulAll pMul := by
  intro Γ σ κ H env v u d e Q Q' I hd he q k
  cases d with
  | int i =>
    cases e with
    | int j => cases hd; cases he; exact .inl ⟨i, j, rfl, rfl, q.1, k _ κ H (.d (.int (i * j))) (.refl ..) I (.int _) q.2⟩
    | _ => exact False.elim q
  | lst xs =>
    cases e with
    | int j =>
      cases he
      obtain ⟨a, vs, rfl, h1, h2, h3⟩ := hd
      obtain ⟨⟨q1, q2⟩, q3, q4⟩ := q
      have rr : ∀ n : Nat, RepL Γ.K Γ.cls κ H (List.replicate n vs).flatten (List.replicate n xs).flatten := fun n => by
        induction n with
        | zero => exact .nil
        | succ n ih =>
          rw [List.replicate_succ, List.replicate_succ, List.flatten_cons, List.flatten_cons]
          exact h3.append ih
      refine .inr (.inl ⟨a, j, vs, rfl, rfl, h1, q1, q2, by rw [h3.length]; exact q3, fun p hp => ?_⟩)
      refine k _ κ _ (.own _) (Ext.upd_new I.gh hp) (I.upd_new hp) (new_lst I hp ?_ (rr _)) q4
      rw [List.length_flatten, List.map_replicate, List.sum_replicate_nat, h3.length, Nat.mul_comm]
      exact q3
    | _ => exact False.elim q
  | str s =>
    cases e with
    | int j =>
      cases he
      obtain ⟨rfl, hs⟩ := Rep.strE hd
      obtain ⟨⟨q1, q2⟩, q3, q4⟩ := q
      refine .inr (.inr ⟨s, j, rfl, rfl, q1, q2, q3, k _ κ H (.d (.str _)) (.refl ..) I (.str _ ⟨?_, fun c hc => ?_⟩) q4⟩)
      · rw [List.length_flatten, List.map_replicate, List.sum_replicate_nat, Nat.mul_comm, sizeLine_eq]
        exact q3
      · obtain ⟨l, hl, hc⟩ := List.mem_flatten.mp hc
        rw [(List.mem_replicate.mp hl).2] at hc
        exact hs.2 c hc
    | _ => exact False.elim q
  | _ => exact False.elim q
theorem ve_mul (ha : VE Y a ta) (hb : VE Y b tb) : VE Y (.BinOp a .Mult b pos) (t2 ta tb pMul) := ve_op o_mul ref_mul ha hb
theorem ve_neg (ha : VE Y a ta) : VE Y (.UnaryOp .USub a pos) (t1 ta fun d Q => match d with | .int i => Q (.d (.int (-i))) | _ => False) := by
  obtain ⟨ra, pa, fa⟩ := ha.ex
  refine ⟨⟨fun E => tUn (rU fun i => .int (-i)) (ra E), fun i => pe_un un_neg (pa i), fun Γ σ κ H env Q Q' hK I q k => ?_⟩⟩
  refine fa Γ σ κ H env _ _ hK I q fun v κ1 H1 r1 e1 x1 I1 h1 q1 => ?_
  cases e' : rv r1 e1 with
  | none => rw [e'] at q1; exact q1.elim
  | some d =>
    rw [e'] at q1
    have rt := rv_ok I1 h1 e'
    cases d with
    | int i => cases rt; exact ⟨i, rfl, k _ κ1 H1 (.d (.int (-i))) e1 x1 I1 (.int _) q1⟩
    | _ => exact q1.elim

/-! ### x[i] = e: a list of one's own, a box -/
def setAt (r : R) (dv : D) (i : Int) (e : En) (Q : En → Prop) : Prop := match r with
  | .d .box => (i = 0 ∨ i = 1) ∧ (match dv with | .int _ => Q e | _ => False)
  | r => match mget r e with
    | some ds => match ixN ds.length i with
      | some j => Q (mset r e (ds.set j dv))
      | none => False
    | none => False
def sSetIx (te to ti : PTE) : PTS := fun x P e => te x e fun r0 e1 => fz r0 e1 fun dv e2 => to x e2 fun ro e3 => hold ro e3 fun ro e3 => ti x e3 fun ri e4 => match rv ri e4 with
  | some (.int i) => setAt ro dv i e4 P.nx
  | _ => False
theorem Gh.upd_box {p : Addr} {i j : Int} (g : Gh Γ κ st H) (h : κ p = some .box) : Gh Γ κ st (L2.upd H p (.lst [.int i, .int j])) := by
  have x : Ext κ H κ (L2.upd H p (.lst [.int i, .int j])) := ⟨fun _ _ e => e, fun a e => upd_ne fun z => by rw [z, h] at e; cases e⟩
  refine ⟨g.sub, g.new, fun b y e => ?_, fun b e => ?_, fun b e => ?_, fun b k e => ?_, g.inj, fun b u e hk' => ?_⟩
  · by_cases hb : b = p
    · rw [hb, upd_same]; simp
    · rw [upd_ne hb]; exact g.trk b y e
  · by_cases hb : b = p
    · rw [hb, upd_same]; simp
    · rw [upd_ne hb]; exact g.trk0 b e
  · by_cases hb : b = p
    · exact ⟨i, j, by rw [hb, upd_same]⟩
    · rw [upd_ne hb]; exact g.box b e
  · have hb : b ≠ p := fun z => by rw [z, h] at e; cases e
    obtain ⟨so', h1, h2⟩ := g.obj b k e
    exact ⟨so', h1, h2.ext x (upd_ne hb)⟩
  · by_cases hb : b = p
    · subst hb
      rcases g.new b _ h with z | z
      · rcases hk' with q | q <;> (rw [q] at z; cases z)
      · rw [e] at z; cases z
    · rw [upd_ne hb]; exact g.base b u e hk'
theorem vs_setIx {i : Expr} {tpos : Pos} (he : VE Y e te) (ho : VE Y o to) (hi : VE Y i ti) (ha : ∀ (X : Cx) v, assign (.Subscript o i tpos) X.env v = (do
      let ov ← holding [v] (eval o X.env)
      let iv ← holding [v, ov] (eval i X.env)
      standAt tpos
      holding [v, ov, iv] (setItem ov iv v)
      release [v, ov, iv] []) := by intro _ _; rfl)
    (hs : ∀ i', swapsWithSole [.Subscript o i tpos] e pos.line (Y.X i').env = pure false := by intro _; rfl) (hw : ∀ i', swappedStores [.Subscript o i tpos] e (Y.X i').env = pure none := by intro _; rfl)
    (h1 : ∀ X : Cx, (assignEach [.Subscript o i tpos] X.env).map (·.2) = [assign (.Subscript o i tpos) X.env] := by intro _; rfl) : VS Y (.Assign [.Subscript o i tpos] e pos) (sSetIx te to ti) := by
  obtain ⟨re, pe, fe⟩ := he.ex
  obtain ⟨ro, po, fo⟩ := ho.ex
  obtain ⟨ri, pi, fi⟩ := hi.ex
  refine ⟨⟨fun E => tAsg (re E) (gSub (ro E) (ri E) rSetL), fun j => ps_asg (pe j) (pg_sub (po j) (pi j) set_list (ha _)) (hs j) (hw j) (h1 _), fun Γ σ κ H env P P' hK I q l => ?_⟩⟩
  refine fe Γ σ κ H env _ _ hK I q fun v κ1 H1 r1 e1 x1 I1 h1 q1 => ?_
  refine fz_ok I1 h1 q1 fun κ2 dv e2 x2 I2 h2 q2 => ?_
  refine fo Γ σ κ2 H1 e2 _ _ hK I2 q2 fun ov κ3 H3 r3 e3 x3 I3 h3 q3 => ?_
  refine hold_ok I3 h3 q3 fun κ4 r4 x4 I4 h4 q4 => ?_
  refine fi Γ σ κ4 H3 e3 _ _ hK I4 q4 fun iv κ5 H5 r5 e5 x5 I5 h5 q5 => ?_
  have hv : Rep Γ.K Γ.cls κ5 H5 v dv := ((h2.mono x3).mono x4).mono x5
  have hr := h4.ext x5
  have x15 := (((x1.trans x2).trans x3).trans x4).trans x5
  cases e' : rv r5 e5 with
  | none => rw [e'] at q5; exact q5.elim
  | some d =>
    rw [e'] at q5
    have rt := rv_ok I5 h5 e'
    cases d with
    | int i =>
      cases rt
      have gen : (match mget r4 e5 with
          | some ds => match ixN ds.length i with
            | some j => P.nx (mset r4 e5 (ds.set j dv))
            | none => False
          | none => False) → rSetL ov (.int i) v H5 fun H6 => P'.nx σ H6 := fun q => by
        cases em : mget r4 e5 with
        | none => rw [em] at q; exact q.elim
        | some ds =>
          rw [em] at q
          simp only at q
          cases en : ixN ds.length i with
          | none => rw [en] at q; exact q.elim
          | some j =>
            rw [en] at q
            obtain ⟨a, vs, rfl, g1, g2, g3, g4⟩ := mut_ok I5 hr em
            obtain ⟨x6, I6⟩ := g4 (vs.set j v) (ds.set j dv) (by rw [List.length_set]; exact g2) (g3.set j hv)
            exact ⟨a, vs, i, j, rfl, rfl, g1, by rw [g3.length]; exact en, l.1 σ κ5 _ _ (x15.trans x6) I6 q⟩
      cases r4 with
      | d z =>
        cases z with
        | box =>
          cases hr with
          | @box a hk =>
            obtain ⟨m, n, hx⟩ := I5.gh.box a hk
            obtain ⟨hi, q5⟩ := q5
            cases dv with
            | int y =>
              cases hv
              have fin : ∀ m' n' : Int, P'.nx σ (upd H5 a (.lst [.int m', .int n'])) := fun m' n' => by
                have x6 : Ext κ5 H5 κ5 (upd H5 a (.lst [.int m', .int n'])) := ⟨fun _ _ e => e, fun b e => upd_ne fun z => by rw [z, hk] at e; cases e⟩
                refine l.1 σ κ5 _ e5 (x15.trans x6) (I5.step (st' := e5.st) x6 (fun j b hb => ?_) (I5.gh.upd_box hk)) q5
                obtain ⟨c, _, hc⟩ := I5.ownS hb
                exact ⟨hc.facts.1, upd_ne fun z => by have := hc.facts.1; rw [z, hk] at this; cases this⟩
              rcases hi with rfl | rfl
              · exact ⟨a, _, 0, 0, rfl, rfl, hx, rfl, fin y n⟩
              · exact ⟨a, _, 1, 1, rfl, rfl, hx, rfl, fin m y⟩
            | _ => exact q5.elim
        | _ => exact gen q5
      | nam _ => exact gen q5
      | own _ => exact gen q5
      | dK _ => exact gen q5
      | dT _ => exact gen q5
    | _ => exact q5.elim

/-! ### a new pair of ints becomes a box -/
def boxed (m : PM) : PM := fun ds st Q => m ds st fun c st' => ∃ i j, c = .own [.int i, .int j] ∧ Q (.d .box) st'
theorem FnG.boxed {P : Program} {w : World} {K : PySem.W.Frag} {mg : Str → Option Value} {base : Heap} {ps : List Str} {f : Addr} {fd : FuncData} {k : Nat} {cls : Nat → Addr} {flds : Nat → List Str} {m : PM}
    (F : FnG P w K mg base CX0 k f fd ps (sp0 K cls flds m)) : FnG P w K mg base CX0 k f fd ps (sp0 K cls flds (boxed m)) :=
  F.imp fun vs H Q E ⟨κ, ds, st, Q', g, r, hm, fin⟩ => ⟨κ, ds, st, _, g, r, hm, fun v κ' H' c st' g' rc ⟨i, j, hc, q⟩ => by
    subst hc
    obtain ⟨a, rfl, h1, h2, vs, h3, h4, h5⟩ := rc
    have x : Ext κ' H' (put κ' a .box) H' := Ext.put h1
    have hx : ∃ i j, H' a = some (.lst [.int i, .int j]) := by
      cases h5 with
      | cons r1 r2 => cases r1; cases r2 with
        | cons r2 r3 => cases r2; cases r3; exact ⟨_, _, h3⟩
    refine fin (.ref a) (put κ' a .box) H' (.d .box) st' ?_ (.box put_same) q
    have ne : ∀ b y, κ' b = some y → b ≠ a := fun b y e z => by rw [z, h1] at e; cases e
    refine ⟨fun b y e => x.1 b y (g'.sub b y e), fun b y e => ?_, fun b y e => ?_, g'.trk0, fun b e => ?_, fun b k e => ?_, fun b c k e1 e2 => ?_, g'.base⟩
    · by_cases hb : b = a
      · subst hb; exact .inr h2
      · rw [put_ne hb] at e; exact g'.new b y e
    · by_cases hb : b = a
      · subst hb; rw [h3]; simp
      · rw [put_ne hb] at e; exact g'.trk b y e
    · by_cases hb : b = a
      · subst hb; exact hx
      · rw [put_ne hb] at e; exact g'.box b e
    · by_cases hb : b = a
      · subst hb; rw [put_same] at e; cases e
      · rw [put_ne hb] at e
        obtain ⟨so, g1, g2⟩ := g'.obj b k e
        exact ⟨so, g1, g2.ext x rfl⟩
    · have hb : b ≠ a := fun z => by subst z; rw [put_same] at e1; cases e1
      have hc : c ≠ a := fun z => by subst z; rw [put_same] at e2; cases e2
      rw [put_ne hb] at e1
      rw [put_ne hc] at e2
      exact g'.inj b c k e1 e2⟩
end
end Pu
set_option maxRecDepth 100000
set_option maxHeartbeats 4000000
namespace Pu
open PySem L2 PySem.Spec PyProof.Rows
section
variable {X : Cx} {tg : Expr}
def iAnyH (K : PySem.W.Frag) (tl : TE) : TI := fun σ H R => tl σ H fun x H1 => (∃ a, x = .ref a ∧ (∃ xs, SqL K H1 a xs) ∧ R (Itl K a) H1) ∨ (∃ a, x = .ref a ∧ (∃ xs, SqT K H1 a xs) ∧ R (Itt K a) H1) ∨ ∃ y, x = .str y ∧ R (Its y) H1
theorem pi_any {l : Expr} {tl : TE} (hl : PE X l tl) : PI X tg l (iAnyH X.K tl) := by
  refine ⟨fun pins s σ H R I h => ?_⟩
  refine thn (hl.run pins s σ H _ I h) fun v s1 ⟨x, H1, I1, r1, q1⟩ => ?_
  rcases q1 with ⟨a, e, ⟨xs, hq⟩, q⟩ | ⟨a, e, ⟨xs, hq⟩, q⟩ | ⟨y, e, q⟩
  · subst e
    cases r1
    obtain ⟨its, rv, p, hz⟩ := I1.list hq
    refine wpAny_pyIter_list p.isList ?_
    refine ⟨s1.heap.objs.size, [s1.heap.objs.size], _, _, H1, rfl, I1.kept (t' := s1.toks) fun b o e => Heap.get?_push_of_some _ e, turn_list a _, ⟨_, Heap.get?_push_size _ rfl, rfl, rfl⟩, fun b hb => ?_, q⟩
    have e : b = s1.heap.objs.size := by simpa using hb
    subst e
    exact I1.fpOk (Nat.le_refl _) (I1.hok.fresh (Nat.le_refl _))
  · subst e
    cases r1
    obtain ⟨its, rv, p, hz⟩ := I1.tuple hq
    refine wpAny_pyIter_tuple (show s1.heap.IsTuple a its.toArray from p) ?_
    refine ⟨s1.heap.objs.size, [s1.heap.objs.size], _, _, H1, rfl, I1.kept (t' := s1.toks) fun b o e => Heap.get?_push_of_some _ e, turn_tuple a _, ⟨_, Heap.get?_push_size _ rfl, rfl, rfl⟩, fun b hb => ?_, q⟩
    have e : b = s1.heap.objs.size := by simpa using hb
    subst e
    exact I1.fpOk (Nat.le_refl _) (I1.hok.fresh (Nat.le_refl _))
  · subst e
    obtain ⟨t, rfl⟩ := r1
    cases ha : y.cps.all (· < 128)
    · exact wpAny_pyIter_wide ha (pi_one (tk := s1.toks) I1 _ (turn_str _ y t "str_iterator" (.inr rfl)) ⟨_, Heap.get?_push_size _ rfl, rfl, rfl⟩ q)
    · exact wpAny_pyIter_ascii ha (pi_one (tk := s1.toks) I1 _ (turn_str _ y t "str_ascii_iterator" (.inl rfl)) ⟨_, Heap.get?_push_size _ rfl, rfl, rfl⟩ q)
end
section
variable {Γ Γ' : Gm} {κ κ' : Ka} {H H' : Hp} {env env' : En} {σ : Sl} {v : V} {st : Sto} {Y : Fam} {a b e o : Expr} {es : List Expr} {ta tb te to ti : PTE} {pos : Pos}
/-- the small letters, the capitals -/
def SM : List Nat := [97, 98, 99, 100, 101, 102, 103, 104, 105, 106, 107, 108, 109, 110, 111, 112, 113, 114, 115, 116, 117, 118, 119, 120, 121, 122]
def CP : List Nat := [65, 66, 67, 68, 69, 70, 71, 72, 73, 74, 75, 76, 77, 78, 79, 80, 81, 82, 83, 84, 85, 86, 87, 88, 89, 90]
def SMCP : List Nat := SM ++ CP
/-- what one walks in a value -/
def D.walk : D → Option (List D)
  | .lst ds => some ds
  | .tup ds => some ds
  | .str s => some (signs s)
  | _ => none
def iAny (te : PTE) : PTI := fun x e Q => te x e fun r e1 => fz r e1 fun d e2 => match d.walk with
  | some ds => Q ds e2
  | none => False
theorem vi_any {tg : Expr} (he : VE Y e te) : VI Y tg e (iAny te) := by
  obtain ⟨ra, pa, fa⟩ := he.ex
  refine ⟨⟨fun E => iAnyH Y.K (ra E), fun i => by have := pi_any (tg := tg) (pa i); rw [Y.hK i] at this; exact this, fun Γ σ κ H env Q Q' hK I q k => ?_⟩⟩
  refine fa Γ σ κ H env _ _ hK I q fun v κ1 H1 r1 e1 x1 I1 h1 q1 => ?_
  refine fz_ok I1 h1 q1 fun κ2 d e2 x2 I2 h2 q2 => ?_
  rw [← hK.k]
  cases d with
  | lst ds =>
    cases h2 with
    | lst g1 g2 g3 g4 => exact .inl ⟨_, rfl, ⟨_, SqL.of g2⟩, k _ κ2 H1 ds e2 (x1.trans x2) I2 (src_list g1 g2 g4) q2⟩
  | tup ds =>
    obtain ⟨a, vs, rfl, g1, _, _⟩ := h2.sqT
    exact .inr (.inl ⟨a, rfl, ⟨vs, g1⟩, k _ κ2 H1 ds e2 (x1.trans x2) I2 (src_tup (vs := vs) h2) q2⟩)
  | str s =>
    obtain ⟨rfl, hs⟩ := h2.strE
    exact .inr (.inr ⟨_, rfl, k _ κ2 H1 (signs s) e2 (x1.trans x2) I2 (src_str hs) q2⟩)
  | _ => exact False.elim q2

/-- a def of the text behind the top -/
structure DefOk (K : PySem.W.Frag) (mg : Str → Option Value) (x : Str) (st : Stmt) (ps : List Str) (f : Addr) (fd : FuncData) : Prop where
  fn : Fun K x x st f fd
  b : Binds K fd ps []
  g : mg x = some (.ref f)
theorem hu0 {P : Program} {w : World} {K : PySem.W.Frag} {mg : Str → Option Value} {base : Heap} {N : List Str} {qual : Str} {sc : Scope} {f : Addr} {k : Nat} {cls : Nat → Addr} {flds : Nat → List Str} : Hu (fam0 P w K mg base N qual sc f k cls flds) := fun i => by
  have h := i.hr.un
  show (i.A.deeper (envOfC qual sc i.s.heap.objs.size f i.cdv)).units + 65 < cLine
  omega
theorem hg0 {P : Program} {w : World} {K : PySem.W.Frag} {mg : Str → Option Value} {base : Heap} {N : List Str} {qual : Str} {sc : Scope} {f : Addr} {k : Nat} {cls : Nat → Addr} {flds : Nat → List Str} : ∀ i, ((fam0 P w K mg base N qual sc f k cls flds).X i).A.guards = some [] := fun i => i.gd
theorem hg_blk {sc : Scope} (h : ∀ i, (Y.X i).A.guards = some []) : ∀ i, ((Y.blk sc).X i).A.guards = some [] := fun p => h p.1
theorem hu_blk {sc : Scope} (h : Hu Y) : Hu (Y.blk sc) := fun p => h p.1
abbrev pSub : D → D → (R → Prop) → Prop := pI (fun _ _ => True) fun i j => .int (i - j)
abbrev pMod : D → D → (R → Prop) → Prop := pI (fun _ j => 0 < j) fun i j => .int (i % j)
abbrev pFdiv : D → D → (R → Prop) → Prop := pI CDivW fun i j => .int (i / j)
abbrev pPow : D → D → (R → Prop) → Prop := pI CPow fun i j => .int (i ^ j.toNat)
def pNeg : D → (R → Prop) → Prop := fun d Q => match d with | .int i => Q (.d (.int (-i))) | _ => False
end
end Pu
set_option maxRecDepth 100000
set_option maxHeartbeats 1000000
/-! repr of data; min, max of data -/
namespace Pu
open PySem L2 PySem.Spec PyProof.Rows
/-- a sign that a text shows as it is -/
def PlainC (c : Nat) : Prop := 32 ≤ c ∧ c < 127 ∧ c ≠ 39 ∧ c ≠ 92
instance (c : Nat) : Decidable (PlainC c) := by unfold PlainC; infer_instance
theorem printable {c : Nat} (h : PlainC c) : Unicode.isPrintable c = true := by
  have key : ∀ c : Nat, c < 127 → 32 ≤ c → Unicode.isPrintable c = true := by decide +kernel
  exact key c h.2.1 h.1
theorem reprChar_plain {c : Nat} (h : PlainC c) : Builtin.Str.reprChar 39 c = [c] := by
  unfold Builtin.Str.reprChar
  obtain ⟨h1, h2, h3, h4⟩ := h
  have e1 : (c == 39 || c == 92) = false := by simp [h3, h4]
  have e2 : (c == 10) = false := by simp; omega
  have e3 : (c == 13) = false := by simp; omega
  have e4 : (c == 9) = false := by simp; omega
  simp only [e1, e2, e3, e4, printable ⟨h1, h2, h3, h4⟩]
  rfl
theorem fold_plain : ∀ (l : List Nat) (acc : Array Nat), (∀ c ∈ l, PlainC c) → (l.foldl (fun out c => out ++ (Builtin.Str.reprChar 39 c).toArray) acc).toList = acc.toList ++ l
  | [], acc, _ => by simp
  | c :: l, acc, h => by
    rw [List.foldl_cons, fold_plain l _ fun d hd => h d (List.mem_cons_of_mem _ hd), reprChar_plain (h c (by simp))]
    simp
theorem repr_plain {s : List Nat} (h : ∀ c ∈ s, PlainC c) : (reprText ⟨s.toArray⟩).cps.toList = 39 :: (s ++ [39]) := by
  have q : reprQuote ⟨s.toArray⟩ = 39 := by
    unfold reprQuote
    have : (s.toArray.contains 39) = false := by
      simp only [List.contains_toArray]
      rw [Bool.eq_false_iff]
      intro z
      rw [List.contains_iff_mem] at z
      exact (h 39 z).2.2.1 rfl
    rw [this]
    rfl
  unfold reprText
  rw [q]
  show ((s.toArray.foldl _ #[39]).push 39).toList = _
  rw [Array.toList_push, ← Array.foldl_toList]
  rw [fold_plain s #[39] h]
  rfl
mutual
/-- what is shown plainly -/
def D.rok : D → Bool
  | .non => true
  | .bl _ => true
  | .int i => decide (i.natAbs.log2 < 1920)
  | .str s => s.all fun c => decide (PlainC c)
  | .lst ds => D.rokL ds
  | .tup ds => D.rokL ds
  | _ => false
def D.rokL : List D → Bool
  | [] => true
  | d :: ds => d.rok && D.rokL ds
end
mutual
def D.rlen : D → Nat
  | .non => 4
  | .bl _ => 5
  | .int _ => 1921
  | .str s => s.length + 2
  | .lst ds => D.rlenL ds + 2
  | .tup ds => D.rlenL ds + 3
  | _ => 0
def D.rlenL : List D → Nat
  | [] => 0
  | d :: ds => d.rlen + 2 + D.rlenL ds
end
/-- what repr shows -/
def shw (d : D) : List Nat := d.py.shown.cps.toList
theorem len_cps (x : Str) : x.cps.toList.length = x.length := rfl
theorem join_len (sep : Str) (hs : sep.length = 2) : ∀ ts : List Str, (Str.join sep ts).length ≤ (ts.map fun t => t.length + 2).sum
  | [] => Nat.le_refl _
  | [x] => by show x.length ≤ _; simp
  | x :: y :: r => by
    have ih := join_len sep hs (y :: r)
    rw [join_cons_cons, ← len_cps, cps_toList_append, cps_toList_append, List.length_append, List.length_append, len_cps, len_cps, len_cps, hs]
    simp only [List.map_cons, List.sum_cons] at *
    omega
theorem app_len (x y : Str) : (x ++ y).length = x.length + y.length := by
  rw [← len_cps, cps_toList_append, List.length_append]
  rfl
mutual
theorem shw_lt : ∀ (d : D), d.rok = true → ∀ c ∈ d.py.shown.cps.toList, c < 127
  | .non, _, c, h => by
    simp only [D.py] at h
    rw [PyData.shown_none] at h
    have e : (("None" : String) : Str).cps.toList = [78, 111, 110, 101] := by decide
    rw [e] at h
    simp at h
    omega
  | .bl b, _, c, h => by
    simp only [D.py] at h
    rw [mem_shown_bool] at h
    cases b <;> simp at h <;> omega
  | .int i, _, c, h => by
    simp only [D.py] at h
    refine Decidable.byContradiction fun z => ?_
    exact shown_int_free' (k := c) ⟨by omega, .inr (by omega)⟩ i h
  | .str s, hr, c, h => by
    simp only [D.py] at h
    simp only [D.rok, List.all_eq_true, decide_eq_true_eq] at hr
    rw [PyData.shown_str, repr_plain hr] at h
    simp only [List.mem_cons, List.mem_append, List.not_mem_nil, or_false] at h
    rcases h with h | h | h
    · omega
    · exact (hr c h).2.1
    · omega
  | .lst ds, hr, c, h => by
    simp only [D.py] at h
    simp only [D.rok] at hr
    rw [PyData.shown_list, mem_cps_append, mem_cps_append, signs_lbrack, signs_rbrack, mem_join, signs_sep] at h
    simp only [List.mem_cons, List.not_mem_nil, or_false] at h
    rcases h with (h | ⟨t, ht, h⟩ | ⟨_, h⟩) | h
    · omega
    · exact shw_ltL ds hr t ht c h
    · omega
    · omega
  | .tup ds, hr, c, h => by
    simp only [D.py] at h
    simp only [D.rok] at hr
    rw [PyData.shown_tuple, mem_cps_append, mem_cps_append, signs_lparen, mem_join, signs_sep] at h
    have e : c ∈ (((if (D.pyL ds).length == 1 then ",)" else ")" : String) : Str)).cps.toList → c < 127 := by
      intro z
      split at z
      · have e : ((",)" : String) : Str).cps.toList = [44, 41] := by decide
        rw [e] at z; simp at z; omega
      · have e : ((")" : String) : Str).cps.toList = [41] := by decide
        rw [e] at z; simp at z; omega
    simp only [List.mem_cons, List.not_mem_nil, or_false] at h
    rcases h with (h | ⟨t, ht, h⟩ | ⟨_, h⟩) | h
    · omega
    · exact shw_ltL ds hr t ht c h
    · omega
    · exact e h
theorem shw_ltL : ∀ (ds : List D), D.rokL ds = true → ∀ t ∈ PyData.shownAll (D.pyL ds), ∀ c ∈ t.cps.toList, c < 127
  | [], _, t, ht, c, h => by simp only [D.pyL, PyData.shownAll_nil, List.not_mem_nil] at ht
  | d :: ds, hr, t, ht, c, h => by
    simp only [D.rokL, Bool.and_eq_true] at hr
    simp only [D.pyL, PyData.shownAll_cons, List.mem_cons] at ht
    rcases ht with rfl | ht
    · exact shw_lt d hr.1 c h
    · exact shw_ltL ds hr.2 t ht c h
end
mutual
theorem shw_len : ∀ (d : D), d.rok = true → d.py.shown.length ≤ d.rlen
  | .non, _ => by
    simp only [D.py, D.rlen]
    rw [PyData.shown_none]
    decide
  | .bl b, _ => by
    simp only [D.py, D.rlen]
    rw [PyData.shown_bool]
    cases b <;> decide
  | .int i, hr => by
    simp only [D.rok, decide_eq_true_eq] at hr
    simp only [D.py, D.rlen]
    rw [PyData.shown_int]
    exact int_text_len_1921 hr
  | .str s, hr => by
    simp only [D.rok, List.all_eq_true, decide_eq_true_eq] at hr
    simp only [D.py, D.rlen]
    rw [PyData.shown_str, ← len_cps, repr_plain hr]
    simp
  | .lst ds, hr => by
    simp only [D.rok] at hr
    simp only [D.py, D.rlen]
    have e1 : (("[" : String) : Str).length = 1 := by decide
    have e2 : (("]" : String) : Str).length = 1 := by decide
    have := join_len ((", " : String) : Str) (by decide) (PyData.shownAll (D.pyL ds))
    have h2 := shw_lenL ds hr
    rw [PyData.shown_list, app_len, app_len, e1, e2]
    omega
  | .tup ds, hr => by
    simp only [D.rok] at hr
    simp only [D.py, D.rlen]
    have e1 : (("(" : String) : Str).length = 1 := by decide
    have e2 : (((if (D.pyL ds).length == 1 then ",)" else ")" : String) : Str)).length ≤ 2 := by split <;> decide
    have := join_len ((", " : String) : Str) (by decide) (PyData.shownAll (D.pyL ds))
    have h2 := shw_lenL ds hr
    rw [PyData.shown_tuple, app_len, app_len, e1]
    omega
theorem shw_lenL : ∀ (ds : List D), D.rokL ds = true → ((PyData.shownAll (D.pyL ds)).map fun t => t.length + 2).sum ≤ D.rlenL ds
  | [], _ => by simp only [D.pyL, PyData.shownAll_nil, D.rlenL]; exact Nat.le_refl _
  | d :: ds, hr => by
    simp only [D.rokL, Bool.and_eq_true] at hr
    simp only [D.pyL, PyData.shownAll_cons, D.rlenL, List.map_cons, List.sum_cons]
    have h1 := shw_len d hr.1
    have h2 := shw_lenL ds hr.2
    omega
end
end Pu
set_option maxRecDepth 100000
set_option maxHeartbeats 1000000
namespace Pu
open PySem L2 PySem.Spec PyProof.Rows
section
variable {X : Cx}
def rReprD (K : PySem.W.Frag) : List V → Hp → VK → Prop := fun xs H Q => ∃ v d, xs = [v] ∧ Dp K H v d ∧ d.showable = true ∧ d.hasDict = false ∧ d.depth ≤ 64 ∧ d.shown.length ≤ sizeLine ∧ Q (.str d.shown) H
theorem call_reprD (hg : X.A.guards = some []) (hu : X.A.units + 65 < cLine) : CallR X (.builtin "repr") (rReprD X.K) := by
  intro pins s σ H xs us Q I r h
  obtain ⟨v, d, rfl, hd, hs, hn, hdp, hl, q⟩ := h
  obtain ⟨u, rfl, rv⟩ := vals1 r
  obtain ⟨as, rd⟩ := Dp.reads I d v u hd rv
  cases hd with
  | non =>
    obtain rfl : u = Value.none := rv
    refine PySem.P.repr_of_none ⟨.str _, H, I.tok _, ⟨_, rfl⟩, ?_⟩
    rw [PyData.shown_none] at q
    exact q
  | bl b =>
    obtain rfl : u = Value.bool b := rv
    refine PySem.P.repr_of_bool ⟨.str _, H, I.tok _, ⟨_, rfl⟩, ?_⟩
    rw [PyData.shown_bool] at q
    exact q
  | int i =>
    obtain ⟨t, rfl⟩ := rv
    refine PySem.P.repr_of_int (by simpa [PyData.showable] using hs) ⟨.str _, H, I.tok _, ⟨_, rfl⟩, ?_⟩
    rw [PyData.shown_int] at q
    exact q
  | str x =>
    obtain ⟨t, rfl⟩ := rv
    rw [PyData.shown_str] at q hl
    exact PySem.P.repr_of_str (h := ⟨.str _, H, I.tok _, ⟨_, rfl⟩, q⟩) hl
  | lst _ _ =>
    cases rv
    exact repr_of_reads' rd hs (PyData.noDict_hsm hn) hg (by omega) (fun _ _ e => e) (fun h' u tk hk => ⟨.str _, H, I.kept hk, ⟨_, rfl⟩, q⟩) hl
  | tup _ _ =>
    cases rv
    exact repr_of_reads' rd hs (PyData.noDict_hsm hn) hg (by omega) (fun _ _ e => e) (fun h' u tk hk => ⟨.str _, H, I.kept hk, ⟨_, rfl⟩, q⟩) hl
end
mutual
theorem rok_show : ∀ (d : D), d.rok = true → d.py.showable = true ∧ d.py.hasDict = false
  | .non, _ => by simp [D.py, PyData.showable, PyData.hasDict]
  | .bl _, _ => by simp [D.py, PyData.showable, PyData.hasDict]
  | .int i, h => by
    simp only [D.rok] at h
    simp only [D.py, PyData.showable, PyData.hasDict]
    exact ⟨h, trivial⟩
  | .str _, _ => by simp [D.py, PyData.showable, PyData.hasDict]
  | .lst ds, h => by
    simp only [D.rok] at h
    simp only [D.py, PyData.showable, PyData.hasDict]
    exact rok_showL ds h
  | .tup ds, h => by
    simp only [D.rok] at h
    simp only [D.py, PyData.showable, PyData.hasDict]
    exact rok_showL ds h
theorem rok_showL : ∀ (ds : List D), D.rokL ds = true → PyData.showableAll (D.pyL ds) = true ∧ PyData.hasDictAll (D.pyL ds) = false
  | [], _ => by simp [D.pyL, PyData.showableAll, PyData.hasDictAll]
  | d :: ds, h => by
    simp only [D.rokL, Bool.and_eq_true] at h
    obtain ⟨a1, a2⟩ := rok_show d h.1
    obtain ⟨b1, b2⟩ := rok_showL ds h.2
    simp only [D.pyL, PyData.showableAll, PyData.hasDictAll, a1, a2, b1, b2]
    exact ⟨rfl, rfl⟩
end
/-- repr(x) -/
def pRepr : List D → (R → Prop) → Prop
  | [d], Q => d.ok 64 = true ∧ d.rok = true ∧ d.rlen ≤ 16777216 ∧ Q (.d (.str (shw d)))
  | _, _ => False
theorem shw_SOk {d : D} (h : d.rok = true) (hl : d.rlen ≤ 16777216) : SOk (shw d) :=
  ⟨by rw [sizeLine_eq]; exact Nat.le_trans (shw_len d h) hl, fun c hc => Nat.lt_trans (shw_lt d h c hc) (by decide)⟩
section
variable {Γ : Gm} {κ : Ka} {H : Hp} {Y : Fam} {e a b : Expr} {pos : Pos}
theorem ref_repr : CallRef rReprD pRepr := by
  intro Γ σ κ H env vs ds Q Q' I h q k
  match ds, vs, h, q with
  | [d], _, .cons (v := v) hd .nil, q =>
    obtain ⟨h1, h2, h3, q⟩ := q
    obtain ⟨g1, g2⟩ := rok_show d h2
    have hl : d.py.shown.length ≤ sizeLine := by rw [sizeLine_eq]; exact Nat.le_trans (shw_len d h2) h3
    refine ⟨v, d.py, rfl, (hd.dp h1).1, g1, g2, D.ok_depth d 64 h1, hl, k _ κ H (.d (.str (shw d))) (.refl ..) I ?_ q⟩
    exact .str (shw d) (shw_SOk h2 h3)
theorem ve_repr {p' : Pos} {t : PTR} (hgd : ∀ i, (Y.X i).A.guards = some []) (hu : Hu Y) (hm : ∀ i, (Y.X i).mg "repr" = none) (ha : VR Y [e] t) (hg : ∀ i, Gl (Y.X i) "repr" := by intro _; rfl) (he : ∀ X : Cx, starEach [e] X.env = (false, eval e X.env) :: starEach [] X.env := by intro _; rfl) : VE Y (.Call (.Name "repr" p') [e] [] pos) (tCallP pRepr t) :=
  ve_callB (fun i => call_reprD (hgd i) (hu i)) ref_repr hm ha hg (he := he)
end
/-! ### min of texts -/
theorem minD_strs (x : List Nat) : ∀ xs : List (List Nat), PySem.W.minD (.str ⟨x.toArray⟩) (xs.map fun s => .str ⟨s.toArray⟩) = .str ⟨(xs.foldl (fun a y => if y < a then y else a) x).toArray⟩ := by
  intro xs
  unfold PySem.W.minD
  induction xs generalizing x with
  | nil => rfl
  | cons y xs ih =>
    rw [List.map_cons, List.foldl_cons, List.foldl_cons, PySem.W.dataLt_str]
    by_cases h : y < x
    · rw [if_pos (by simpa using h), if_pos h]; exact ih y
    · rw [if_neg (by simpa using h), if_neg h]; exact ih x
def minS (x : List Nat) (r : List (List Nat)) : List Nat := r.foldl (fun a y => if y < a then y else a) x
def vS (s : List Nat) : V := .str ⟨s.toArray⟩
theorem dpAll_strs {K : PySem.W.Frag} {H : Hp} : ∀ r : List (List Nat), DpAll K H (r.map vS) (r.map fun s => PyData.str ⟨s.toArray⟩)
  | [] => .nil
  | x :: r => .cons (.str _) (dpAll_strs r)
theorem alike_strs (r : List (List Nat)) : PySem.W.AlikeAll (r.map fun s => PyData.str ⟨s.toArray⟩) := by
  constructor
  · intro x hx y hy
    obtain ⟨a, _, rfl⟩ := List.mem_map.mp hx
    obtain ⟨b, _, rfl⟩ := List.mem_map.mp hy
    simp [PySem.W.alike]
  · intro x hx
    obtain ⟨a, _, rfl⟩ := List.mem_map.mp hx
    exact fun z => nomatch z
theorem depth_strs (r : List (List Nat)) : PyData.depthAll (r.map fun s => PyData.str ⟨s.toArray⟩) ≤ 1 := by
  induction r with
  | nil => simp [PyData.depthAll]
  | cons x r ih =>
    simp only [List.map_cons, PyData.depthAll, PyData.depth]
    omega
def rMinSq (K : PySem.W.Frag) : List V → Hp → VK → Prop := fun xs H Q => ∃ p x r, xs = [.ref p] ∧ (SqL K H p ((x :: r).map vS) ∨ SqT K H p ((x :: r).map vS)) ∧ Q (vS (minS x r)) H
section
variable {X : Cx}
theorem call_minSq (hc : X.calm = true) (hu : X.A.units + 65 < cLine) : CallR X (.builtin "min") (rMinSq X.K) := by
  intro pins s σ H xs us Q I r h
  obtain ⟨p, x, rr, rfl, hs, q⟩ := h
  have fin : ∀ (v : Value) (h' : Heap) (tk : Tok) (bs : List Addr), Reads h' v (PySem.W.minD (.str ⟨x.toArray⟩) (rr.map fun s => PyData.str ⟨s.toArray⟩)) bs → (∀ b o, s.heap.get? b = some o → h'.get? b = some o) → EP X pins σ Q v { s with heap := h', toks := tk } := by
    intro v h' tk bs rd hk
    rw [minD_strs] at rd
    cases rd
    exact ⟨vS (minS x rr), H, I.kept hk, ⟨_, rfl⟩, q⟩
  have hdep := depth_strs (x :: rr)
  rcases hs with hs | hs
  · obtain ⟨its, rv, hl, _⟩ := I.list hs
    rw [Vals.ref1 r]
    obtain ⟨as, rd⟩ := Dp.readsAll I _ _ _ (dpAll_strs (x :: rr)) rv
    exact PySem.W.min_list_data (I.ok.hd hc) hl.isList rd (alike_strs (x :: rr)) (Nat.lt_of_le_of_lt (Nat.add_le_add_left hdep _) (by omega)) fun i v h' tk bs _ rd hk => fin v h' tk bs rd hk
  · obtain ⟨its, rv, hl, _⟩ := I.tuple hs
    rw [Vals.ref1 r]
    obtain ⟨as, rd⟩ := Dp.readsAll I _ _ _ (dpAll_strs (x :: rr)) rv
    exact PySem.W.min_tuple_data (I.ok.hd hc) hl rd (alike_strs (x :: rr)) (Nat.lt_of_le_of_lt (Nat.add_le_add_left hdep _) (by omega)) fun i v h' tk bs _ rd hk => fin v h' tk bs rd hk
/-- min(a, b) of texts -/
def rMin2S : List V → Hp → VK → Prop := fun xs H Q => ∃ x y, xs = [vS x, vS y] ∧ Q (vS (if y < x then y else x)) H
theorem call_min2S (hc : X.calm = true) : CallR X (.builtin "min") rMin2S := by
  intro pins s σ H xs us Q I r h
  obtain ⟨x, y, rfl, q⟩ := h
  obtain ⟨u1, u2, rfl, ⟨t1, rfl⟩, ⟨t2, rfl⟩⟩ := vals2 r
  have hz : (s.heap.push { cls := .type "tuple", data := .seq #[.str ⟨x.toArray⟩ t1, .str ⟨y.toArray⟩ t2] }).objs.size = s.heap.objs.size + 1 := Heap.size_push ..
  have hT : (s.heap.push { cls := .type "tuple", data := .seq #[.str ⟨x.toArray⟩ t1, .str ⟨y.toArray⟩ t2] }).IsTuple s.heap.objs.size #[.str ⟨x.toArray⟩ t1, .str ⟨y.toArray⟩ t2] := ⟨_, Heap.get?_push_size _ rfl, rfl, 0, rfl⟩
  have cmp : CmpOf X.prog X.w X.A.in1 .Lt (fun i v => (#[Value.str ⟨x.toArray⟩ t1, .str ⟨y.toArray⟩ t2])[i]? = some v) (fun i j => decide ((if i = 0 then x else y) < (if j = 0 then x else y))) := by
    intro i j vi vj s' Q' E' hi hj hq
    have at_ : ∀ (i : Nat) (v : Value), (#[Value.str ⟨x.toArray⟩ t1, .str ⟨y.toArray⟩ t2])[i]? = some v → ∃ t, v = .str ⟨(if i = 0 then x else y).toArray⟩ t := by
      intro i v hv
      match i, hv with
      | 0, hv => cases hv; exact ⟨t1, rfl⟩
      | 1, hv => cases hv; exact ⟨t2, rfl⟩
      | n + 2, hv => simp at hv
    obtain ⟨ti, rfl⟩ := at_ i vi hi
    obtain ⟨tj, rfl⟩ := at_ j vj hj
    exact PySem.P.lt_str (by simpa using hq)
  refine call_min_two (wpAny_pyIter_tuple hT ?_)
  refine ⟨_, [_, s.heap.objs.size], [_], _, _, _, _, rfl, Walks.tuple (A := X.A.in1) (I.ok.hd hc) _ s.heap.objs.size (by rw [hz]; exact Nat.ne_of_lt (Nat.lt_succ_self _)) #[.str ⟨x.toArray⟩ t1, .str ⟨y.toArray⟩ t2],
    ⟨⟨_, Heap.get?_push_size _ rfl, rfl, rfl⟩, hT.push _⟩, fun c hc => ?_, Nat.zero_lt_succ _, cmp, fun v h' tk hP hk => ?_⟩
  · show c < ((s.heap.push _).push _).objs.size
    rw [Heap.size_push, hz]
    simp only [List.mem_cons, List.not_mem_nil, or_false] at hc
    rcases hc with rfl | rfl
    · rw [hz]; exact Nat.lt_succ_self _
    · exact Nat.lt_succ_of_lt (Nat.lt_succ_self _)
  · have old : ∀ b o, s.heap.get? b = some o → h'.get? b = some o := fun b o e => by
      refine hk b o (fun hm => ?_) (Heap.get?_push_of_some _ (Heap.get?_push_of_some _ e))
      rw [List.mem_singleton] at hm
      have := Heap.lt_size e
      rw [hm, hz] at this
      exact Nat.lt_irrefl _ (Nat.lt_of_succ_lt this)
    refine ⟨vS (if y < x then y else x), H, I.kept old, ?_, q⟩
    by_cases hyx : y < x
    · rw [if_pos hyx]
      have e : argBest (fun i j => decide ((if i = 0 then x else y) < (if j = 0 then x else y))) 1 = 1 := by simp [argBest, hyx]
      have hP : (#[Value.str ⟨x.toArray⟩ t1, .str ⟨y.toArray⟩ t2])[argBest (fun i j => decide ((if i = 0 then x else y) < (if j = 0 then x else y))) 1]? = some v := hP
      rw [e] at hP
      cases hP
      exact ⟨t2, rfl⟩
    · rw [if_neg hyx]
      have e : argBest (fun i j => decide ((if i = 0 then x else y) < (if j = 0 then x else y))) 1 = 0 := by simp [argBest, hyx]
      have hP : (#[Value.str ⟨x.toArray⟩ t1, .str ⟨y.toArray⟩ t2])[argBest (fun i j => decide ((if i = 0 then x else y) < (if j = 0 then x else y))) 1]? = some v := hP
      rw [e] at hP
      cases hP
      exact ⟨t1, rfl⟩
end
theorem minS_mem (x : List Nat) (r : List (List Nat)) : minS x r ∈ x :: r := by
  unfold minS
  induction r generalizing x with
  | nil => simp
  | cons y r ih =>
    rw [List.foldl_cons]
    split
    · exact List.mem_cons_of_mem _ (ih y)
    · have := ih x
      rcases List.mem_cons.mp this with h | h
      · rw [h]; simp
      · exact List.mem_cons_of_mem _ (List.mem_cons_of_mem _ h)
/-- min of a list, of a tuple of texts; of two texts -/
def pMin1 : List D → (R → Prop) → Prop
  | [d], Q => match strL d.items with
    | some (x :: r) => Q (.d (.str (minS x r)))
    | _ => False
  | _, _ => False
def pMin2S : List D → (R → Prop) → Prop
  | [.str x, .str y], Q => Q (.d (.str (if y < x then y else x)))
  | _, _ => False
section
variable {Γ : Gm} {κ : Ka} {H : Hp} {Y : Fam} {e a b : Expr} {pos : Pos}
theorem ref_min1 : CallRef rMinSq pMin1 := by
  intro Γ σ κ H env vs ds Q Q' I h q k
  match ds, vs, h, q with
  | [d], _, .cons (v := v) hd .nil, q =>
    unfold pMin1 at q
    simp only at q
    cases e1 : strL d.items with
    | none => rw [e1] at q; exact q.elim
    | some l =>
      rw [e1] at q
      cases l with
      | nil => exact q.elim
      | cons x r =>
        have fin : ∀ vs' : List V, RepL Γ.K Γ.cls κ H vs' d.items → vs' = (x :: r).map vS ∧ Q' (vS (minS x r)) H := fun vs' hr => by
          obtain ⟨e2, e3⟩ := strL_rep hr e1
          exact ⟨e2, k _ κ H (.d (.str (minS x r))) (.refl ..) I (.str _ (e3 _ (minS_mem x r))) q⟩
        cases d with
        | lst ds =>
          obtain ⟨a, ws, rfl, g1, g2, g3⟩ := hd
          obtain ⟨e2, q2⟩ := fin ws g3
          subst e2
          exact ⟨a, x, r, rfl, .inl (SqL.of g1), q2⟩
        | tup ds =>
          obtain ⟨a, ws, rfl, g1, g2, g3⟩ := Rep.sqT hd
          obtain ⟨e2, q2⟩ := fin ws g3
          subst e2
          exact ⟨a, x, r, rfl, .inr g1, q2⟩
        | _ => simp [D.items, strL] at e1
theorem ref_min2S : CallRef (fun _ => rMin2S) pMin2S := by
  intro Γ σ κ H env vs ds Q Q' I h q k
  match ds, vs, h, q with
  | [.str x, .str y], _, .cons h (.cons h' .nil), q =>
    obtain ⟨rfl, h1⟩ := Rep.strE h
    obtain ⟨rfl, h2⟩ := Rep.strE h'
    exact ⟨x, y, rfl, k _ κ H (.d (.str _)) (.refl ..) I (.str _ (by split <;> assumption)) q⟩
theorem ve_min1 {p' : Pos} {t : PTR} (hu : Hu Y) (hm : ∀ i, (Y.X i).mg "min" = none) (ha : VR Y [e] t) (hc : ∀ i, (Y.X i).calm = true := by intro _; rfl) (hg : ∀ i, Gl (Y.X i) "min" := by intro _; rfl) (he : ∀ X : Cx, starEach [e] X.env = (false, eval e X.env) :: starEach [] X.env := by intro _; rfl) : VE Y (.Call (.Name "min" p') [e] [] pos) (tCallP pMin1 t) :=
  ve_callB (fun i => call_minSq (hc i) (hu i)) ref_min1 hm ha hg (he := he)
theorem ve_min2S {p' : Pos} {t : PTR} (hm : ∀ i, (Y.X i).mg "min" = none) (ha : VR Y [a, b] t) (hc : ∀ i, (Y.X i).calm = true := by intro _; rfl) (hg : ∀ i, Gl (Y.X i) "min" := by intro _; rfl) (he : ∀ X : Cx, starEach [a, b] X.env = (false, eval a X.env) :: starEach [b] X.env := by intro _; rfl) (hpl : ∀ X : Cx, (backTo pos (starEach [b] X.env)).any (·.1) = false := by intro _; rfl) : VE Y (.Call (.Name "min" p') [a, b] [] pos) (tCallP pMin2S t) :=
  ve_callB (fun i => call_min2S (hc i)) ref_min2S hm ha hg (he := he) (hpl := hpl)
end
end Pu
set_option maxRecDepth 100000
set_option maxHeartbeats 4000000
/-! sorted(text) -/
namespace PuE
open PySem PySem.Spec PyProof.Rows L2 RT PySem.W
section
variable {prog : Program} {w : World} {A : Around} {E : Value → Shared → Prop} {s : Shared}
theorem ks_gather {R : List Value → Shared → Prop} {x : Str} {t : Tok} (hh : A.handled = none) (hn : x.cps.size ≤ sizeLine)
    (h : ∀ (h' : Heap) (tk : Nat) (acc : Array Value), (∀ b o, s.heap.get? b = some o → h'.get? b = some o) → ItemsOf (SignAt x) acc x.cps.size → R acc.toList { s with heap := h', toks := tk }) :
    wpAny (model prog w) A (collect (.str x t)) R E s := by
  unfold collect
  refine wpAny_bind (wpAny_runValue (codeAny_builtin entry_proto_collect' ?_))
  rw [Around.under_plainId PySem.F.plain_proto_collect _]
  show wpAny _ A.in1 (newList [] >>= fun l => again (.builtin "list.__iadd__" ⟨[l, .str x t], []⟩)) _ _ s
  refine wpAny_bind (wpAny_newObj_type ?_)
  refine wpAny_pure ⟨plainId_quiet PySem.F.plain_list_iadd _, codeAny_builtin entry_list_iadd' ?_⟩
  rw [Around.under_plainId PySem.F.plain_list_iadd _]
  have hS₁ : (s.heap.push { cls := .type "list", data := .seq ([] : List Value).toArray }).get? s.heap.objs.size = some { cls := .type "list", data := .seq #[] } := Heap.get?_push_size _ rfl
  show wpAny _ A.in1 (Builtin.List.listExtendWith (.ref s.heap.objs.size) (.str x t) (.ref s.heap.objs.size)) _ _ _
  have key := ks_extend (prog := prog) (w := w) (A := A) (x := x) (t := t) (s := { s with heap := s.heap.push { cls := .type "list", data := .seq ([] : List Value).toArray } })
    (R := fun (q : Result) (s' : Shared) => ∃ (h' : Heap) (tk : Nat) (acc' : Array Value) (c' : Nat), q = .ok (.ret (.ref s.heap.objs.size)) ∧ s' = { s with heap := h', toks := tk } ∧
      (∀ b o, s.heap.get? b = some o → h'.get? b = some o) ∧ h'.get? s.heap.objs.size = some { cls := .type "list", dict := none, data := .seq acc' c', slots := #[] } ∧ ItemsOf (SignAt x) acc' x.cps.size)
    hh s.heap.objs.size (.ref s.heap.objs.size) 0 hS₁
    (fun h' tk acc' c' hk hS' hacc => ⟨h', tk, acc', c', rfl, rfl, fun b o e => hk b o (Nat.ne_of_lt (Heap.lt_size e)) (Heap.get?_push_of_some _ e), hS', hacc⟩) hn
  refine wpAny_mono key (fun fin s' z => ?_) fun e s' z => ?_
  · cases fin with
    | done f =>
      obtain ⟨h', tk, acc', c', e, rfl, hk, hS', hacc⟩ := z
      cases e
      show wpAny _ A (load s.heap.objs.size >>= _) _ _ _
      exact wpAny_bind (wpAny_load hS' (wpAny_pure (h h' tk acc' hk hacc)))
    | again c₁ =>
      refine ⟨z.1, codeAny_mono z.2 fun q s₂ y => ?_⟩
      obtain ⟨h', tk, acc', c', rfl, rfl, hk, hS', hacc⟩ := y
      show wpAny _ A (load s.heap.objs.size >>= _) _ _ _
      exact wpAny_bind (wpAny_load hS' (wpAny_pure (h h' tk acc' hk hacc)))
  · obtain ⟨_, _, _, _, e', _⟩ := z
    cases e'
end
def rSortStr : List V → Hp → VK → Prop := fun xs H Q => ∃ x : Str, xs = [.str x] ∧ x.cps.size < 64 ∧
    ∀ ys p, ys.Perm (x.cps.toList.map fun c => (⟨#[c]⟩ : Str)) → sortedS ys = true → H p = none → Q (.ref p) (upd H p (.lst (ys.map V.str)))
theorem call_sortStr {X : Cx} (hcalm : X.calm = true) : CallR X (.builtin "sorted") rSortStr := by
  intro pins s σ H xs us Q I r q
  obtain ⟨x, ex, h64, q⟩ := q
  subst ex
  obtain ⟨u, rfl, t, rfl⟩ := vals1 r
  have h16 : x.cps.size ≤ sizeLine := by rw [sizeLine_eq]; omega
  refine Calls.call_function_entry PyProof.Rows.kind_sorted PyProof.Rows.plain_sorted PyProof.Rows.entry_sorted (PyProof.Rows.args_sorted1 _) ?_
  unfold Builtin.«sorted»
  refine wpAny_bind (m := checkCount "sorted" 1 1 _) (wpAny_pure ?_)
  refine wpAny_bind (ks_gather (A := X.A.in1) (I.ok.hd hcalm) h16 fun h' tk acc hk hacc => ?_)
  have hl : (x.cps.toList.map fun c => (⟨#[c]⟩ : Str)).length = x.cps.size := by rw [List.length_map, Array.length_toList]
  have hal : acc.toList.length = (x.cps.toList.map fun c => (⟨#[c]⟩ : Str)).length := by rw [Array.length_toList, hacc.1, hl]
  have hS : StrsAre acc.toList (x.cps.toList.map fun c => (⟨#[c]⟩ : Str)) := strs_at hal fun j v e => by
    obtain ⟨c, u, e1, e2⟩ := hacc.2 j v (by rw [← Array.getElem?_toList]; exact e)
    exact ⟨⟨#[c]⟩, u, by rw [List.getElem?_map, Array.getElem?_toList, e1]; rfl, e2⟩
  have I1 : Inv X pins σ H { s with heap := h', toks := tk } := I.kept hk
  refine wpAny_bind (wpAny_newList ?_ (by rw [hal, hl, sizeLine_eq]; omega))
  have hoL : (h'.push (seqObj "list" acc.toList.toArray 0)).get? h'.objs.size = some (seqObj "list" acc.toList.toArray 0) := Heap.get?_push_size _ rfl
  show wpAny _ _ _ _ _ { s with heap := h'.push (seqObj "list" acc.toList.toArray 0), toks := tk }
  refine wpAny_bind (wpAny_holding (wpAny_call_entry PyProof.Rows.slot_list_sort ⟨_, hoL, rfl⟩ PyProof.Rows.entry_list_sort
    (list_sort_treeK strKind_oneLt (s := { s with heap := h'.push (seqObj "list" acc.toList.toArray 0), toks := tk }) hoL hS.keysOf (fun v₁ v₂ rest e => keyKind_strs (by rw [← e]; exact hS)) (by rw [hal, hl]; exact h64) fun st' hp hs => ⟨_, rfl, ?_⟩)
    (PyProof.Rows.args_list_sort _)))
  obtain ⟨ys, g1, g2, g3⟩ := sorted_out_str hS hp hs
  obtain ⟨e', he'⟩ := PyProof.Rows.sortedHeap_at (vs := acc.toList) (out := (arrOf st').map (·.2)) hoL
  have hlen : (ys.map V.str).length ≤ sizeLine := by
    rw [List.length_map, g2.length_eq, hl]
    exact h16
  refine wpAny_pure ⟨_, rfl, .ref h'.objs.size, upd H h'.objs.size (.lst (ys.map V.str)), I1.laid (t' := tk) (fun b u e => ?_) (Nat.le_refl _)
    (show ObjOk X.prog X.w _ _ _ (.lst (ys.map V.str)) from ⟨hlen, ((arrOf st').map (·.2)).toList, e', vals_of_strs g1, by rw [Array.toArray_toList]; exact he'⟩), rfl, q ys _ g2 g3 (I1.hok.fresh (Nat.le_refl _))⟩
  have hb : b < h'.objs.size := Heap.lt_size e
  rw [PyProof.Rows.sortedHeap_old (Nat.ne_of_lt hb) (by rw [size_push']; exact Nat.lt_succ_of_lt hb)]
  exact Heap.get?_push_of_some _ e
end PuE
set_option maxRecDepth 100000
set_option maxHeartbeats 4000000
/-! sorted of pairs of ints, in a list or a tuple -/
namespace PuE
open PySem PySem.Spec PyProof.Rows L2 SrtO
section
variable {prog : Program} {w : World} {A : Around} {E : Value → Shared → Prop} {s : Shared}
theorem sorted_pairs_in {l : Addr} {T : String} {o : Obj} {items : Array Value} {n : Nat} {k : Value → Int × Int} {Q : Value → Shared → Prop} (hT : T = "list" ∨ T = "tuple") (ho : s.heap.get? l = some o) (hc : o.cls = .type T) (hd : o.data = .seq items n)
    (hz : items.toList.length ≤ sizeLine) (hp : ∀ v ∈ items.toList, Srt.IsPair s.heap v (k v).1 (k v).2)
    (h : ∀ (h1 h' : Heap) (out : List Value), Srtd (fun v u => lexB (k v) (k u)) out → Stb (fun v u => lexB (k v) (k u)) out items.toList → (∀ b o, s.heap.get? b = some o → h1.get? b = some o) → (∀ b o, h1.get? b = some o → h'.get? b = some o) → (∃ n, h'.get? h1.objs.size = some (seqObj "list" out.toArray n)) → Q (.ref h1.objs.size) { s with heap := h' }) :
    wpAny (model prog w) A (call (.builtin "sorted") [.ref l]) Q E s := by
  refine Calls.call_function_entry kind_sorted plain_sorted entry_sorted (args_sorted1 _) ?_
  unfold Builtin.«sorted»
  refine wpAny_bind (m := checkCount "sorted" 1 1 _) (wpAny_pure ?_)
  refine wpAny_bind (wpAny_collect_seq l hT ho hc hd (fun h1 k1 => ?_) (by simpa using hz))
  refine wpAny_bind (wpAny_newList ?_ hz)
  have hoL : (h1.push (seqObj "list" items.toList.toArray 0)).get? h1.objs.size = some (seqObj "list" items.toList.toArray 0) := Heap.get?_push_size _ rfl
  have k2 : ∀ b o, s.heap.get? b = some o → b ≠ h1.objs.size ∧ (h1.push (seqObj "list" items.toList.toArray 0)).get? b = some o := fun b o q =>
    ⟨Nat.ne_of_lt (Heap.lt_size (k1 b o q)), Heap.get?_push_of_some _ (k1 b o q)⟩
  show wpAny _ _ _ _ _ { s with heap := h1.push (seqObj "list" items.toList.toArray 0) }
  refine wpAny_bind (wpAny_holding (wpAny_call_entry slot_list_sort ⟨_, hoL, rfl⟩ entry_list_sort (list_sort_ord (swo_lex k) hoL hz (fun h2 => ?_) fun out hs hb => ⟨_, rfl, ?_⟩) (args_list_sort _)))
  · refine pairs_sortableO (s := { s with heap := h1.push (seqObj "list" items.toList.toArray 0) }) (by omega) (fun v hm => (hp v hm).keeps fun b o e _ => (k2 b o e).2) fun o e => ?_
    have e' : some o = some (seqObj "list" items.toList.toArray 0) := e.symm.trans hoL
    cases e'
    intro c
    exact absurd (Value.type.inj c) (by decide)
  · obtain ⟨e', he'⟩ := sortedHeap_at (vs := items.toList) (out := out.toArray) hoL
    refine wpAny_pure ⟨_, rfl, h h1 _ out hs hb k1 (fun b u e => ?_) ⟨e', he'⟩⟩
    have hb' : b < h1.objs.size := Heap.lt_size e
    rw [sortedHeap_old (Nat.ne_of_lt hb') (by rw [size_push']; exact Nat.lt_succ_of_lt hb')]
    exact Heap.get?_push_of_some _ e
end
/-- sorted(xs), a list or a tuple of pairs of ints, told beside the items -/
def rSortPr (K : PySem.W.Frag) : List V → Hp → VK → Prop := fun vs H Q => ∃ (a : Addr) (L : List (V × (Int × Int))), vs = [V.ref a] ∧ (SqL K H a (L.map (·.1)) ∨ SqT K H a (L.map (·.1))) ∧ (∀ x ∈ L, ∃ t, x.1 = V.ref t ∧ SqT K H t [.int x.2.1, .int x.2.2]) ∧
  ∀ (L' : List (V × (Int × Int))) (p : Addr), L'.Perm L → L'.Pairwise (fun x y => SrtO.lexB y.2 x.2 = false) → H p = none → Q (.ref p) (upd H p (.lst (L'.map (·.1))))
open Classical in
noncomputable def prOf (K : PySem.W.Frag) (H : Hp) (v : V) : Int × Int := if h : ∃ q : Int × Int, ∃ t, v = V.ref t ∧ SqT K H t [.int q.1, .int q.2] then choose h else (0, 0)
theorem prOf_eq {X : Cx} {pins : List (Addr × Obj)} {σ : L2.St} {H : Hp} {s : Shared} (I : Inv X pins σ H s) {t : Addr} {q : Int × Int} (h : SqT X.K H t [.int q.1, .int q.2]) : prOf X.K H (.ref t) = q := by
  have hx : ∃ q : Int × Int, ∃ t', V.ref t = V.ref t' ∧ SqT X.K H t' [.int q.1, .int q.2] := ⟨q, t, rfl, h⟩
  unfold prOf
  rw [dif_pos hx]
  obtain ⟨t', e, h'⟩ := Classical.choose_spec hx
  cases e
  have := I.tuple_inj h' h
  simp only [List.cons.injEq, V.int.injEq, and_true] at this
  exact Prod.ext this.1 this.2
theorem cr_sortPr {X : Cx} : CallR X (.builtin "sorted") (rSortPr X.K) := by
  intro pins s σ H vs us Q I r h
  obtain ⟨a, L, rfl, hs, hx, q⟩ := h
  obtain ⟨u, rfl, ru⟩ := vals1 r
  obtain rfl : u = Value.ref a := ru
  obtain ⟨T, o, its, n, hT, ho, hc, hd, rv, hz⟩ : ∃ (T : String) (o : Obj) (its : List Value) (n : Nat), (T = "list" ∨ T = "tuple") ∧ s.heap.get? a = some o ∧ o.cls = .type T ∧ o.data = .seq its.toArray n ∧ Vals (L.map (·.1)) its ∧ (L.map (·.1)).length ≤ sizeLine := by
    rcases hs with hs | hs
    · obtain ⟨its, rv, hl, hz⟩ := I.list hs
      obtain ⟨o, ho, hc, n, hd⟩ := hl.isList
      exact ⟨"list", o, its, n, .inl rfl, ho, hc, hd, rv, hz⟩
    · obtain ⟨its, rv, hl, hz⟩ := I.tuple hs
      obtain ⟨o, ho, hc, n, hd⟩ := hl
      exact ⟨"tuple", o, its, n, .inr rfl, ho, hc, hd, rv, hz⟩
  have hk : ∀ x ∈ L, prOf X.K H x.1 = x.2 := fun x hm => by
    obtain ⟨t, e, ht⟩ := hx x hm
    rw [e]
    exact prOf_eq I ht
  obtain ⟨e1, e2⟩ := refs_back rv fun x m => by
    obtain ⟨y, hy, rfl⟩ := List.mem_map.mp m
    obtain ⟨t, e, _⟩ := hx y hy
    exact ⟨t, e⟩
  refine sorted_pairs_in (k := fun u => prOf X.K H (backV u)) hT ho hc hd (by rw [← rv.length]; exact hz) (fun v hv => ?_) fun h1 h' out g1 g2 k1 k2 hn => ?_
  · have hv : v ∈ its := by simpa using hv
    obtain ⟨t, rfl⟩ := e2 v hv
    have hm : V.ref t ∈ L.map (·.1) := by rw [e1]; exact List.mem_map.mpr ⟨_, hv, rfl⟩
    obtain ⟨y, hy, ey⟩ := List.mem_map.mp hm
    obtain ⟨t', e, ht⟩ := hx y hy
    have ek := hk y hy
    rw [ey] at e ek
    cases e
    obtain ⟨its2, r2, hl2, _⟩ := I.tuple ht
    obtain ⟨o2, ho2, hc2, n2, hd2⟩ := hl2
    obtain ⟨u1, u2, rfl, ri, rj⟩ := vals2 r2
    obtain ⟨t1, rfl⟩ := ri
    obtain ⟨t2, rfl⟩ := rj
    show Srt.IsPair s.heap (.ref t) (prOf X.K H (.ref t)).1 (prOf X.K H (.ref t)).2
    rw [ek]
    exact ⟨t, o2, t1, t2, n2, rfl, ho2, hc2, hd2⟩
  · have eits : its.toArray.toList = its := by simp
    rw [eits] at g2
    have h3 : ∀ u ∈ out, ∃ a, u = Value.ref a := fun u hu => e2 u (g2.perm.mem_iff.mp hu)
    obtain ⟨n', hn⟩ := hn
    have I1 : Inv X pins σ H { s with heap := h1 } := I.kept (t' := s.toks) k1
    have hb : (out.map backV).Perm (L.map (·.1)) := by
      rw [e1]
      exact g2.perm.map backV
    have eL : (L.map (·.1)).map (fun v => (v, prOf X.K H v)) = L := by
      rw [List.map_map]
      conv => rhs; rw [← List.map_id L]
      apply List.map_congr_left
      intro x hm
      show (x.1, prOf X.K H x.1) = x
      rw [hk x hm]
    have hL' : ((out.map backV).map fun v => (v, prOf X.K H v)).Perm L := by
      have := hb.map fun v => (v, prOf X.K H v)
      rw [eL] at this
      exact this
    have e3 : ((out.map backV).map fun v => (v, prOf X.K H v)).map (·.1) = out.map backV := by
      rw [List.map_map]
      conv => rhs; rw [← List.map_id (out.map backV)]
      rfl
    have fin := q _ h1.objs.size hL' (by
      rw [List.pairwise_map, List.pairwise_map]
      exact g1) (I1.hok.fresh (Nat.le_refl _))
    rw [e3] at fin
    refine ⟨.ref h1.objs.size, upd H h1.objs.size (.lst (out.map backV)), I1.laid (t' := s.toks) k2 (Nat.le_refl _) ⟨?_, out, n', vals_back h3, hn⟩, rfl, fin⟩
    rw [hb.length_eq]
    exact hz
end PuE
namespace Pu
open PySem L2 PySem.Spec PyProof.Rows
def pr2 (p : Int × Int) : D := .tup [.int p.1, .int p.2]
def prL : List D → Option (List (Int × Int))
  | [] => some []
  | .tup [.int i, .int j] :: ds => match prL ds with
    | some r => some ((i, j) :: r)
    | none => none
  | _ => none
def D.seqs : D → Option (List D)
  | .lst ds => some ds
  | .tup ds => some ds
  | _ => none
/-- sorted(list or tuple of pairs of ints) -/
def pSortP : List D → (R → Prop) → Prop
  | [d], Q => match d.seqs with
    | some ds => match prL ds with
      | some ps => ∀ qs : List (Int × Int), qs.Perm ps → qs.Pairwise (fun x y => SrtO.lexB y x = false) → Q (.own (qs.map pr2))
      | none => False
    | none => False
  | _, _ => False
section
variable {Γ : Gm} {κ : Ka} {H : Hp} {Y : Fam} {e a b : Expr} {pos : Pos} {σ : Sl} {env : En}
theorem prL_rep : ∀ {ds : List D} {vs : List V} {ps : List (Int × Int)}, RepL Γ.K Γ.cls κ H vs ds → prL ds = some ps → ∃ L : List (V × (Int × Int)), L.map (·.1) = vs ∧ L.map (·.2) = ps ∧ ∀ x ∈ L, Rep Γ.K Γ.cls κ H x.1 (pr2 x.2)
  | [], _, _, h, e => by cases h; cases e; exact ⟨[], rfl, rfl, by simp⟩
  | d :: ds, _, _, h, e => by
    cases h with
    | @cons v vs _ _ h1 h2 =>
      match d, h1, e with
      | .tup [.int i, .int j], h1, e =>
        unfold prL at e
        cases q : prL ds with
        | none => rw [q] at e; cases e
        | some r =>
          rw [q] at e
          cases e
          obtain ⟨L, e1, e2, e3⟩ := prL_rep h2 q
          refine ⟨(v, (i, j)) :: L, by rw [List.map_cons, e1], by rw [List.map_cons, e2], fun x hx => ?_⟩
          rcases List.mem_cons.mp hx with rfl | hx
          · exact h1
          · exact e3 x hx
theorem repL_of : ∀ {L : List (V × (Int × Int))}, (∀ x ∈ L, Rep Γ.K Γ.cls κ H x.1 (pr2 x.2)) → RepL Γ.K Γ.cls κ H (L.map (·.1)) ((L.map (·.2)).map pr2)
  | [], _ => .nil
  | x :: L, h => .cons (h x (by simp)) (repL_of fun y hy => h y (List.mem_cons_of_mem _ hy))
theorem ref_sortP : CallRef PuE.rSortPr pSortP := by
  intro Γ σ κ H env vs ds Q Q' I h q k
  match ds, vs, h, q with
  | [d], _, .cons (v := v) hd .nil, q =>
    unfold pSortP at q
    simp only at q
    have key : ∀ (a : Addr) (ws : List V) (xs : List D), v = .ref a → (SqL Γ.K H a ws ∨ SqT Γ.K H a ws) → ws.length ≤ sizeLine → RepL Γ.K Γ.cls κ H ws xs →
        (match prL xs with | some ps => ∀ qs : List (Int × Int), qs.Perm ps → qs.Pairwise (fun x y => SrtO.lexB y x = false) → Q (.own (qs.map pr2)) | none => False) → PuE.rSortPr Γ.K [v] H Q' := by
      intro a ws xs ev hw hz hr q
      cases e1 : prL xs with
      | none => rw [e1] at q; exact q.elim
      | some ps =>
        rw [e1] at q
        obtain ⟨L, l1, l2, l3⟩ := prL_rep hr e1
        subst l1 l2 ev
        refine ⟨a, L, rfl, hw, fun x hx => ?_, fun L' p hp hs hpn => ?_⟩
        · obtain ⟨t, vs2, e2, h2, _, r2⟩ := (l3 x hx).sqT
          refine ⟨t, e2, ?_⟩
          cases r2 with
          | cons r2 r3 =>
            cases r3 with
            | cons r3 r4 =>
              cases r4
              cases r2
              cases r3
              exact h2
        · have r' := repL_of (Γ := Γ) (κ := κ) (H := H) (L := L') fun x hx => l3 x (hp.mem_iff.mp hx)
          refine k _ κ _ (.own _) (Ext.upd_new I.gh hpn) (I.upd_new hpn) (new_lst I hpn ?_ r') (q _ (hp.map _) (by rw [List.pairwise_map]; exact hs))
          rw [List.length_map, hp.length_eq]
          rw [List.length_map] at hz
          exact hz
    cases d with
    | lst xs =>
      obtain ⟨a, ws, rfl, g1, g2, g3⟩ := hd
      exact key a ws xs rfl (.inl (SqL.of g1)) g2 g3 q
    | tup xs =>
      obtain ⟨a, ws, rfl, g1, g2, g3⟩ := Rep.sqT hd
      exact key a ws xs rfl (.inr g1) g2 g3 q
    | _ => exact q.elim
theorem ve_sortP {p' : Pos} {t : PTR} (hm : ∀ i, (Y.X i).mg "sorted" = none) (ha : VR Y [e] t) (hg : ∀ i, Gl (Y.X i) "sorted" := by intro _; rfl) (he : ∀ X : Cx, starEach [e] X.env = (false, eval e X.env) :: starEach [] X.env := by intro _; rfl) : VE Y (.Call (.Name "sorted" p') [e] [] pos) (tCallP pSortP t) :=
  ve_callB (fun _ => PuE.cr_sortPr) ref_sortP hm ha hg (he := he)
end
end Pu
set_option maxRecDepth 100000
set_option maxHeartbeats 4000000
/-! zip of two lists or tuples, sum of ints, text.count of a sign, name += int -/
namespace PuE
open PySem PySem.Spec PyProof.Rows L2 PySem.W
def SqB (K : PySem.W.Frag) (H : Hp) (t : Bool) (a : Addr) (xs : List V) : Prop := if t = true then SqT K H a xs else SqL K H a xs
def ItB (h : Heap) (t : Bool) (it a : Addr) (i : Nat) : Prop := if t = true then h.IsTupleIter it a i else h.IsListIter it a i
theorem ItB.keep {h h' : Heap} {t : Bool} {it a : Addr} {i : Nat} (x : ItB h t it a i) (k : ∀ o, h.get? it = some o → h'.get? it = some o) : ItB h' t it a i := by
  unfold ItB at *
  cases t with
  | true => obtain ⟨o, ho, r⟩ := x; exact ⟨o, k o ho, r⟩
  | false => obtain ⟨o, ho, r⟩ := x; exact ⟨o, k o ho, r⟩
theorem ItB.obj {h : Heap} {t : Bool} {it a : Addr} {i : Nat} (x : ItB h t it a i) : ∃ o, h.get? it = some o ∧ ∀ v, o.data ≠ .cell v := by
  unfold ItB at x
  cases t with
  | true => obtain ⟨o, ho, _, hd⟩ := x; exact ⟨o, ho, fun v q => by rw [hd] at q; cases q⟩
  | false => obtain ⟨o, ho, _, hd⟩ := x; exact ⟨o, ho, fun v q => by rw [hd] at q; cases q⟩
theorem drawsB {X : Cx} {pins : List (Addr × Obj)} {σ : L2.St} {H : Hp} {s : Shared} (I : Inv X pins σ H s) (hc : X.calm = true) {t : Bool} {a it : Addr} {xs : List V} (hq : SqB X.K H t a xs) (hne : a ≠ it) :
    ∃ (its : List Value) (St : Nat → Heap → Prop), Vals xs its ∧ xs.length ≤ sizeLine ∧ Draws X.prog X.w X.A.in1 it [it, a] its.length (fun i v => its[i]? = some v) St ∧ (∀ i, ItB s.heap t it a i → St i s.heap) ∧ (∀ i h, St i h → ItB h t it a i) := by
  unfold SqB at hq
  cases t with
  | true =>
    obtain ⟨its, rv, p, hz⟩ := I.tuple hq
    have D := Draws.tuple (prog := X.prog) (w := X.w) (A := X.A.in1) (I.ok.hd hc) it a hne its.toArray
    have e1 : its.toArray.size = its.length := List.size_toArray
    rw [e1] at D
    refine ⟨its, _, rv, hz, ⟨D.live, D.frame, fun i s Q E h1 h2 h3 => D.item i s Q E h1 h2 fun x h' tk y => h3 x h' tk (by simpa using y), D.done⟩, fun i h => ⟨h, p⟩, fun i h x => x.1⟩
  | false =>
    obtain ⟨its, rv, p, hz⟩ := I.list hq
    have D := Draws.list (prog := X.prog) (w := X.w) (A := X.A.in1) (I.ok.hd hc) it a hne its.toArray
    have e1 : its.toArray.size = its.length := List.size_toArray
    rw [e1] at D
    refine ⟨its, _, rv, hz, ⟨D.live, D.frame, fun i s Q E h1 h2 h3 => D.item i s Q E h1 h2 fun x h' tk y => h3 x h' tk (by simpa using y), D.done⟩, fun i h => ⟨h, p.isList⟩, fun i h x => x.1⟩
theorem SqB.inj {X : Cx} {pins : List (Addr × Obj)} {σ : L2.St} {H : Hp} {s : Shared} (I : Inv X pins σ H s) {t : Bool} {a : Addr} {xs ys : List V} (h : SqB X.K H t a xs) (g : SqB X.K H t a ys) : xs = ys := by
  unfold SqB at h g
  cases t with
  | true => exact I.tuple_inj h g
  | false => exact I.list_inj h g
def Izb (K : PySem.W.Frag) (ta : Bool) (a : Addr) (tb : Bool) (b : Addr) : It :=
  ⟨fun i H => ∃ (xs ys : List V) (x y : V), SqB K H ta a xs ∧ SqB K H tb b ys ∧ xs[i]? = some x ∧ ys[i]? = some y,
    fun i H v H' => ∃ T x y, v = .ref T ∧ H T = none ∧ H' = upd H T (.tup [x, y]) ∧ (∀ xs, SqB K H ta a xs → xs[i]? = some x) ∧ ∀ ys, SqB K H tb b ys → ys[i]? = some y,
    fun i H => ∃ xs ys : List V, SqB K H ta a xs ∧ SqB K H tb b ys ∧ i ≤ xs.length ∧ i ≤ ys.length ∧ (i = xs.length ∨ i = ys.length)⟩
theorem turn_zb {P : Program} {w : World} {K : PySem.W.Frag} {elts : List Expr} {kk : Nat} {tpos : Pos} {ta tb : Bool} {a b z TI TO i1 i2 : Addr} (S : ZipSep2 z TI TO i1 i2 [i1, a] [i2, b]) (n1 : a ≠ i1) (n2 : b ≠ i2) :
    Turn P w K (.Tuple elts kk tpos) (Izb K ta a tb b) [z, TI, TO, i1, i2] z (fun i h => IsZip h z TI TO .none ∧ IsTupOf2 h TI (.ref i1) (.ref i2) ∧ (∃ x y, IsTupOf2 h TO x y) ∧ ItB h ta i1 a i ∧ ItB h tb i2 b i) where
  mem := by simp
  obj := fun i h st c hc => by
    obtain ⟨hz, hTI, ⟨x, y, hTO⟩, h1, h2⟩ := st
    have e' : c = z ∨ c = TI ∨ c = TO ∨ c = i1 ∨ c = i2 := by simpa using hc
    rcases e' with q | q | q | q | q
    · rw [q]; exact ⟨_, hz, fun v q => nomatch q⟩
    · rw [q]; exact ⟨_, hTI, fun v q => nomatch q⟩
    · rw [q]; exact ⟨_, hTO, fun v q => nomatch q⟩
    · rw [q]; exact h1.obj
    · rw [q]; exact h2.obj
  keep := fun i h h' st k => by
    obtain ⟨hz, hTI, ⟨x, y, hTO⟩, h1, h2⟩ := st
    exact ⟨k z (by simp) _ hz, k TI (by simp) _ hTI, ⟨x, y, k TO (by simp) _ hTO⟩, h1.keep fun o q => k i1 (by simp) o q, h2.keep fun o q => k i2 (by simp) o q⟩
  item := by
    intro X hP hw hK hc i pins s σ H E I hf st hg
    subst hP hw hK
    obtain ⟨hz, hTI, ⟨x0, y0, hTO⟩, h1, h2⟩ := st
    obtain ⟨xs, ys, x, y, hqx, hqy, hx, hy⟩ := hg
    obtain ⟨its, St1, rv, _, D1, d1, d1'⟩ := drawsB I hc (it := i1) hqx n1
    obtain ⟨its2, St2, rv2, _, D2, d2, d2'⟩ := drawsB I hc (it := i2) hqy n2
    obtain ⟨u, hu, ru⟩ := rv.get hx
    obtain ⟨u2, hu2, ru2⟩ := rv2.get hy
    have hzl : z < s.heap.objs.size := Heap.lt_size hz
    refine wpAny_pyNext_zipD2_item S D1 D2 hz hTI hTO (d1 i h1) (d2 i h2) (List.getElem?_eq_some_iff.mp hu).1 (List.getElem?_eq_some_iff.mp hu2).1 fun v1 v2 h' tk p1 p2 z' TO' g1 g2 hT hsz hk => ?_
    have p1 : its[i]? = some v1 := p1
    have p2 : its2[i]? = some v2 := p2
    rw [hu] at p1
    rw [hu2] at p2
    cases p1
    cases p2
    refine ⟨_, rfl, wpAny_letOwnedTupleGo_zip (s := { s with heap := h', toks := tk }) z' fun h'' z'' sb => ?_⟩
    have hT2 : h''.get? s.heap.objs.size = some { cls := .type "tuple", data := .seq #[u, u2] } := (sb.2 _ (Nat.ne_of_gt hzl)).trans hT
    have new : ObjOk X.prog X.w (upd H s.heap.objs.size (.tup [x, y])) h'' s.heap.objs.size (.tup [x, y]) :=
      ⟨by show 2 ≤ sizeLine; decide, [u, u2], .cons ru (.cons ru2 .nil), ⟨_, hT2, rfl, _, rfl⟩⟩
    have I1 : Inv X pins σ (upd H s.heap.objs.size (.tup [x, y])) { s with heap := h'', toks := tk } :=
      I.turnedNew (t' := tk) (ch := [z, TI, TO, i1, i2]) (fun c o hb q => (sb.2 c (fun q' => hb (by simp [q']))).trans (hk c o (fun q' => hb (by simp [q'])) (fun q' => hb (by simp [q'])) (fun q' => hb (by simp [q'])) (fun q' => hb (by simp [q'])) q)) hf (Nat.le_refl _) new
    refine ⟨.ref s.heap.objs.size, _, I1, rfl, ⟨_, x, y, rfl, I.hok.fresh (Nat.le_refl _), rfl, fun l hl => by rw [SqB.inj I hl hqx]; exact hx, fun l hl => by rw [SqB.inj I hl hqy]; exact hy⟩, ⟨z'', ?_, ⟨u, u2, ?_⟩, ?_, ?_⟩, fun c hcm => ?_⟩
    · have k1 := hk _ _ S.TIz S.TITO S.TIi1 S.TIi2 hTI
      exact (sb.2 _ S.TIz).trans k1
    · exact (sb.2 _ S.TOz).trans TO'
    · exact (d1' _ _ g1).keep fun o q => (sb.2 _ (Ne.symm S.zi1)).trans q
    · exact (d2' _ _ g2).keep fun o q => (sb.2 _ (Ne.symm S.zi2)).trans q
    · have hlt : c < s.heap.objs.size := by
        have e' : c = z ∨ c = TI ∨ c = TO ∨ c = i1 ∨ c = i2 := by simpa using hcm
        rcases e' with q | q | q | q | q
        · rw [q]; exact hzl
        · rw [q]; exact Heap.lt_size hTI
        · rw [q]; exact Heap.lt_size hTO
        · rw [q]; obtain ⟨_, e1, _⟩ := h1.obj; exact Heap.lt_size e1
        · rw [q]; obtain ⟨_, e2, _⟩ := h2.obj; exact Heap.lt_size e2
      rw [upd_ne (Nat.ne_of_lt hlt)]
      exact (hf c hcm).1
  done := by
    intro X hP hw hK hc i pins s σ H E I hf st hg
    subst hP hw hK
    obtain ⟨hz, hTI, ⟨x0, y0, hTO⟩, h1, h2⟩ := st
    obtain ⟨xs, ys, hqx, hqy, le1, le2, hend⟩ := hg
    obtain ⟨its, St1, rv, _, D1, d1, d1'⟩ := drawsB I hc (it := i1) hqx n1
    obtain ⟨its2, St2, rv2, _, D2, d2, d2'⟩ := drawsB I hc (it := i2) hqy n2
    have l1 := rv.length
    have l2 := rv2.length
    exact wpAny_pyNext_zipD2_end S D1 D2 hz hTI hTO (d1 i h1) (d2 i h2) (by omega) (by omega) (by omega) fun h' tk hk => ⟨rfl, I.turnedL (t' := tk) (ch := [z, TI, TO, i1, i2]) (fun c o hb q =>
      hk c o (fun q' => hb (by simp [q'])) (fun q' => hb (by simp [q'])) (fun q' => hb (by simp [q'])) (fun q' => hb (by simp [q'])) q) hf⟩
  self := fun A i s Q E st h => wpAny_pyIter_zip st.1 h
def iZipB (K : PySem.W.Frag) (ta : TA) : TI := fun σ H R => ta σ H fun vs H1 => ∃ a b t1 t2 xs ys, vs = [.ref a, .ref b] ∧ SqB K H1 t1 a xs ∧ SqB K H1 t2 b ys ∧ R (Izb K t1 a t2 b) H1
theorem beginsB {X : Cx} {pins : List (Addr × Obj)} {σ : L2.St} {H : Hp} {s : Shared} (I : Inv X pins σ H s) {t : Bool} {a : Addr} {xs : List V} (hq : SqB X.K H t a xs) :
    ∃ o Hh, Begins (.ref a) o Hh ∧ Hh s.heap ∧ a < s.heap.objs.size ∧ ∀ h' N, h'.get? N = some o → ItB h' t N a 0 := by
  unfold SqB at hq
  cases t with
  | true =>
    obtain ⟨its, rv, p, hz⟩ := I.tuple hq
    have p : s.heap.IsTuple a its.toArray := p
    exact ⟨_, _, begins_tuple a its.toArray, p, by obtain ⟨o, ho, _⟩ := p; exact Heap.lt_size ho, fun h' N h => ⟨_, h, rfl, rfl⟩⟩
  | false =>
    obtain ⟨its, rv, p, hz⟩ := I.list hq
    exact ⟨_, _, begins_list a its.toArray, p.isList, p.lt, fun h' N h => ⟨_, h, rfl, rfl⟩⟩
theorem pi_zipB {X : Cx} {e e2 : Expr} {ta : TA} {p pos tpos : Pos} {elts : List Expr} {kk : Nat} (hg : Gl X "zip") (hm : X.mg "zip" = none) (ha : PA X [e, e2] ta)
    (hs : starEach [e, e2] X.env = (false, eval e X.env) :: starEach [e2] X.env := by rfl) (hpl : (backTo pos (starEach [e2] X.env)).any (·.1) = false := by rfl) :
    PI X (.Tuple elts kk tpos) (.Call (.Name "zip" p) [e, e2] [] pos) (iZipB X.K ta) := by
  refine ⟨fun pins s σ H R I h => ?_⟩
  refine Call_ (ld_blt I hg hm PyProof.Rows.boot_zip (PyProof.Rows.callWith_type1 (thn (ha.run pos pins s σ H _ I h) fun us s1 ⟨vs, H1, I1, r1, q1⟩ => ?_) hs hpl))
  obtain ⟨a, b, t1, t2, xs, ys, ex, hqx, hqy, q⟩ := q1
  subst ex
  cases r1 with
  | cons r rr =>
    cases rr with
    | cons r' rr =>
      cases rr
      cases r
      cases r'
      obtain ⟨o1, G1, B1, h1, la, w1⟩ := beginsB I1 hqx
      obtain ⟨o2, G2, B2, h2, lb, w2⟩ := beginsB I1 hqy
      refine zip_begins2 B1 B2 h1 h2 fun h' hz hTI hTO g1 g2 hsz hk => wpAny_pyIter_zip hz ?_
      have I2 : Inv X pins σ H1 { s1 with heap := h' } := I1.kept (t' := s1.toks) hk
      have S := zip_sep2 (N := s1.heap.objs.size) (fp1 := [a]) (fp2 := [b]) (fun c hc => by rw [show c = a from (by simpa using hc)]; exact la) (fun c hc => by rw [show c = b from (by simpa using hc)]; exact lb)
      refine ⟨s1.heap.objs.size + 4, [s1.heap.objs.size + 4, s1.heap.objs.size + 2, s1.heap.objs.size + 3, s1.heap.objs.size, s1.heap.objs.size + 1], _, _, H1, rfl, I2, turn_zb S (Nat.ne_of_lt la) (Nat.ne_of_lt (Nat.lt_succ_of_lt lb)), ⟨hz, hTI, ⟨_, _, hTO⟩, w1 _ _ g1, w2 _ _ g2⟩, fun c hcm => ?_, q⟩
      have e' : c = s1.heap.objs.size + 4 ∨ c = s1.heap.objs.size + 2 ∨ c = s1.heap.objs.size + 3 ∨ c = s1.heap.objs.size ∨ c = s1.heap.objs.size + 1 := by simpa using hcm
      have hle : s1.heap.objs.size ≤ c := by
        rcases e' with z | z | z | z | z
        · rw [z]; exact Nat.le_add_right _ _
        · rw [z]; exact Nat.le_add_right _ _
        · rw [z]; exact Nat.le_add_right _ _
        · rw [z]; exact Nat.le_refl _
        · rw [z]; exact Nat.le_add_right _ _
      exact I1.fpOk hle (I1.hok.fresh hle)
/-- how often a sign stands in a text -/
theorem occ_all (x y : Str) (hy : y.length = 1) (hi : Nat) : ∀ (l : List Nat) (st : Array Nat × Nat), (∀ j ∈ l, st.snd ≤ j) → l.Pairwise (· < ·) → st.fst.size + l.length ≤ hi + 1 → (forIn l st (StrLaws.occBody x y hi (hi + 1))).run.fst.size = st.fst.size + (l.filter fun j => decide (j + 1 ≤ hi) && Builtin.Str.subAt x y j).length
  | [], st, _, _, _ => by simp
  | a :: l, st, hf, hp, hs => by
    rw [List.forIn_cons]
    rw [List.pairwise_cons] at hp
    rw [List.length_cons] at hs
    unfold StrLaws.occBody
    by_cases c : a + 1 ≤ hi ∧ Builtin.Str.subAt x y a = true
    · rw [if_pos ⟨⟨⟨by omega, hf a (by simp)⟩, by rw [hy]; exact c.1⟩, c.2⟩, List.filter_cons_of_pos (by simp [c.1, c.2])]
      have := occ_all x y hy hi l (st.fst.push a, a + y.length) (fun j hj => by have := hp.1 j hj; show a + y.length ≤ j; omega) hp.2 (by simp; omega)
      rw [List.length_cons]
      refine Eq.trans this ?_
      simp
      omega
    · rw [if_neg (fun z => c ⟨by have := z.1.2; rw [hy] at this; exact this, z.2⟩), List.filter_cons_of_neg (by
        intro z
        rw [Bool.and_eq_true, decide_eq_true_eq] at z
        exact c z)]
      exact occ_all x y hy hi l (st.fst, st.snd) (fun j hj => hf j (List.mem_cons_of_mem _ hj)) hp.2 (by show st.fst.size + _ ≤ _; omega)
theorem count_places (c : Nat) : ∀ (l : List Nat) (k n : Nat), k + l.length = n → ((List.range' k (l.length + 1)).filter fun j => decide (j + 1 ≤ n) && decide (l[j - k]? = some c)).length = l.count c
  | [], k, n, h => by
    have : ¬ k + 1 ≤ n := by simp at h; omega
    simp [List.range'_succ, this]
  | x :: l, k, n, h => by
    rw [List.length_cons, List.range'_succ]
    have h1 : k + 1 ≤ n := by simp at h; omega
    have ih := count_places c l (k + 1) n (by simp at h; omega)
    have e : ((List.range' (k + 1) (l.length + 1)).filter fun j => decide (j + 1 ≤ n) && decide ((x :: l)[j - k]? = some c)) = (List.range' (k + 1) (l.length + 1)).filter fun j => decide (j + 1 ≤ n) && decide (l[j - (k + 1)]? = some c) := by
      apply List.filter_congr
      intro j hj
      rw [List.mem_range'_1] at hj
      have : j - k = (j - (k + 1)) + 1 := by omega
      rw [this, List.getElem?_cons_succ]
    by_cases hc : x = c
    · rw [List.filter_cons_of_pos (by simp [h1, hc]), e, List.length_cons, ih, hc, List.count_cons_self]
    · rw [List.filter_cons_of_neg (by simp [hc]), e, ih, List.count_cons_of_ne hc]
theorem count_sign (l : List Nat) (c : Nat) : Txt.count ⟨l.toArray⟩ ⟨#[c]⟩ = (l.count c : Nat) := by
  unfold Txt.count
  rw [StrLaws.occ_eq]
  have hl : (⟨l.toArray⟩ : Str).length = l.length := by show l.toArray.size = _; simp
  rw [hl, Nat.sub_zero, Array.length_toList, occ_all _ _ rfl l.length _ (#[], 0) (fun j _ => Nat.zero_le _) List.pairwise_lt_range' (by simp)]
  have e : ((List.range' 0 (l.length + 1)).filter fun j => decide (j + 1 ≤ l.length) && Builtin.Str.subAt ⟨l.toArray⟩ ⟨#[c]⟩ j) = (List.range' 0 (l.length + 1)).filter fun j => decide (j + 1 ≤ l.length) && decide (l[j - 0]? = some c) := by
    apply List.filter_congr
    intro j _
    have h := StrLaws.subAt_one ⟨l.toArray⟩ c j
    rw [hl] at h
    have h : (j + 1 ≤ l.length ∧ Builtin.Str.subAt ⟨l.toArray⟩ ⟨#[c]⟩ j = true) ↔ l[j]? = some c := by
      refine Iff.trans h ?_
      simp
    rw [Bool.eq_iff_iff, Bool.and_eq_true, Bool.and_eq_true, decide_eq_true_eq, decide_eq_true_eq, Nat.sub_zero]
    constructor
    · exact fun z => ⟨z.1, h.mp z⟩
    · exact fun z => h.mpr z.2
  rw [e, count_places c l 0 l.length (by omega)]
  simp
end PuE
namespace Pu
open PySem L2 PySem.Spec PyProof.Rows
section
variable {Γ Γ' : Gm} {κ κ' : Ka} {H H' : Hp} {env env' : En} {σ : Sl} {v : V} {st : Sto} {Y : Fam} {a b e o : Expr} {es : List Expr} {ta tb te to ti : PTE} {pos : Pos}
def zipF : List D → List D → List D
  | x :: xs, y :: ys => .tup [x, y] :: zipF xs ys
  | _, _ => []
theorem zipF_get : ∀ (xs ys : List D) (i : Nat), (zipF xs ys)[i]? = match xs[i]?, ys[i]? with | some x, some y => some (.tup [x, y]) | _, _ => none
  | [], ys, i => by simp [zipF]
  | x :: xs, [], i => by
    simp only [zipF, List.getElem?_nil]
    cases (x :: xs)[i]? <;> rfl
  | x :: xs, y :: ys, 0 => by simp [zipF]
  | x :: xs, y :: ys, i + 1 => by
    rw [zipF, List.getElem?_cons_succ, List.getElem?_cons_succ, List.getElem?_cons_succ, zipF_get xs ys i]
theorem zipF_len : ∀ (xs ys : List D), (zipF xs ys).length = min xs.length ys.length
  | [], ys => by simp [zipF]
  | x :: xs, [] => by simp [zipF]
  | x :: xs, y :: ys => by
    rw [zipF, List.length_cons, zipF_len xs ys, List.length_cons, List.length_cons]
    omega
/-- a list or tuple that stays, as it is walked -/
def D.side : D → Option (Bool × List D)
  | .lst ds => some (false, ds)
  | .tup ds => some (true, ds)
  | _ => none
theorem side_ok {d : D} {t : Bool} {ds : List D} (h : Rep Γ.K Γ.cls κ H v d) (e : d.side = some (t, ds)) : ∃ a, v = .ref a ∧ ∀ (κ1 : Ka) (H1 : Hp), Ext κ H κ1 H1 → ∃ vs, PuE.SqB Γ.K H1 t a vs ∧ RepL Γ.K Γ.cls κ1 H1 vs ds := by
  cases d with
  | lst xs =>
    cases e
    cases h with
    | lst g1 g2 g3 g4 => exact ⟨_, rfl, fun κ1 H1 x => ⟨_, SqL.of ((x.2 _ g1).trans g2), g4.mono x⟩⟩
  | tup xs =>
    cases e
    obtain ⟨a, vs, rfl, _⟩ := h.sqT
    refine ⟨a, rfl, fun κ1 H1 x => ?_⟩
    obtain ⟨b, ws, e0, h1, _, r⟩ := (h.mono x).sqT
    cases e0
    exact ⟨ws, h1, r⟩
  | _ => cases e
theorem src_zb {a b : Addr} {t1 t2 : Bool} {ds es : List D} (h1 : ∀ (κ1 : Ka) (H1 : Hp), Ext κ H κ1 H1 → ∃ vs, PuE.SqB Γ.K H1 t1 a vs ∧ RepL Γ.K Γ.cls κ1 H1 vs ds) (h2 : ∀ (κ1 : Ka) (H1 : Hp), Ext κ H κ1 H1 → ∃ vs, PuE.SqB Γ.K H1 t2 b vs ∧ RepL Γ.K Γ.cls κ1 H1 vs es) : Src Γ.K Γ.cls κ H (PuE.Izb Γ.K t1 a t2 b) (zipF ds es) := by
  intro Γ2 hK hc σ κ1 H1 env i I x
  rw [← hK, ← hc] at h1 h2
  rw [← hK]
  obtain ⟨vs, s1, r1⟩ := h1 κ1 H1 x
  obtain ⟨ws, s2, r2⟩ := h2 κ1 H1 x
  refine ⟨fun d e => ?_, fun e => ⟨vs, ws, s1, s2, ?_⟩⟩
  · rw [zipF_get] at e
    cases q1 : ds[i]? with
    | none => rw [q1] at e; cases e
    | some y1 =>
      cases q2 : es[i]? with
      | none => rw [q1, q2] at e; cases e
      | some y2 =>
        rw [q1, q2] at e
        cases e
        obtain ⟨v1, e1, p1⟩ := r1.get q1
        obtain ⟨v2, e2, p2⟩ := r2.get q2
        refine ⟨⟨vs, ws, v1, v2, s1, s2, e1, e2⟩, fun w H' yy => ?_⟩
        obtain ⟨T, z1, z2, rfl, hT, rfl, hz1, hz2⟩ := yy
        have hz1 := hz1 vs s1
        have hz2 := hz2 ws s2
        rw [e1] at hz1
        rw [e2] at hz2
        cases hz1
        cases hz2
        exact ⟨_, new_tup I hT (by show 2 ≤ sizeLine; decide) (.cons p1 (.cons p2 .nil))⟩
  · rw [zipF_len] at e
    have l1 := r1.length
    have l2 := r2.length
    omega
def iZipP (t : PTR) : PTI := fun x e Q => t x e fun rs e1 => match rs with
  | [r1, r2] => fz r1 e1 fun d1 e2 => fz r2 e2 fun d2 e3 => match d1.side, d2.side with
    | some (_, ds), some (_, es) => Q (zipF ds es) e3
    | _, _ => False
  | _ => False
theorem vi_zip {elts : List Expr} {kk : Nat} {tpos : Pos} {p : Pos} {t : PTR} {e2 : Expr} (hm : ∀ i, (Y.X i).mg "zip" = none) (ha : VR Y [e, e2] t) (hg : ∀ i, Gl (Y.X i) "zip" := by intro _; rfl)
    (hs : ∀ X : Cx, starEach [e, e2] X.env = (false, eval e X.env) :: starEach [e2] X.env := by intro _; rfl) (hpl : ∀ X : Cx, (backTo pos (starEach [e2] X.env)).any (·.1) = false := by intro _; rfl) :
    VI Y (.Tuple elts kk tpos) (.Call (.Name "zip" p) [e, e2] [] pos) (iZipP t) := by
  obtain ⟨ra, pa, fa⟩ := ha.ex
  refine ⟨⟨fun E => PuE.iZipB Y.K (ra E), fun i => by have := PuE.pi_zipB (elts := elts) (kk := kk) (tpos := tpos) (p := p) (pos := pos) (hg i) (hm i) (pa i) (hs _) (hpl _); rw [Y.hK i] at this; exact this, fun Γ σ κ H env Q Q' hK I q k => ?_⟩⟩
  refine fa Γ σ κ H env _ _ hK I q fun vs κ1 H1 rs e1 x1 I1 h1 q1 => ?_
  match rs, vs, h1, q1 with
  | [r1, r2], [v1, v2], .cons h1 (.cons h2 .nil), q1 =>
    refine fz_ok I1 h1.rel q1 fun κ2 d1 e2 x2 I2 g1 q2 => ?_
    refine fz_ok I2 (h2.ext x2).rel q2 fun κ3 d2 e3 x3 I3 g2 q3 => ?_
    rw [← hK.k]
    cases s1 : d1.side with
    | none => rw [s1] at q3; exact q3.elim
    | some p1 =>
      cases s2 : d2.side with
      | none => rw [s1, s2] at q3; exact q3.elim
      | some p2 =>
        obtain ⟨t1, ds⟩ := p1
        obtain ⟨t2, es⟩ := p2
        rw [s1, s2] at q3
        obtain ⟨a, rfl, w1⟩ := side_ok (g1.mono x3) s1
        obtain ⟨b, rfl, w2⟩ := side_ok g2 s2
        obtain ⟨xs, z1, _⟩ := w1 κ3 H1 (.refl ..)
        obtain ⟨ys, z2, _⟩ := w2 κ3 H1 (.refl ..)
        exact ⟨a, b, t1, t2, xs, ys, rfl, z1, z2, k _ κ3 H1 _ e3 ((x1.trans x2).trans x3) I3 (src_zb w1 w2) q3⟩
  | [], _, _, q1 => exact False.elim q1
  | [_], _, _, q1 => exact False.elim q1
  | _ :: _ :: _ :: _, _, _, q1 => exact False.elim q1
/-- sum of ints -/
def intL : List D → Option (List Int)
  | [] => some []
  | .int i :: ds => match intL ds with
    | some r => some (i :: r)
    | none => none
  | _ => none
theorem intL_map (r : List Int) : intL (r.map D.int) = some r := by
  induction r with
  | nil => rfl
  | cons x r ih => simp only [List.map_cons, intL, ih]
theorem intL_rep : ∀ {ds : List D} {vs : List V} {r : List Int}, RepL Γ.K Γ.cls κ H vs ds → intL ds = some r → vs = r.map V.int
  | [], _, _, h, e => by cases h; cases e; rfl
  | d :: ds, _, _, h, e => by
    cases h with
    | cons h1 h2 =>
      match d, h1, e with
      | .int i, h1, e =>
        unfold intL at e
        cases q : intL ds with
        | none => rw [q] at e; cases e
        | some r' =>
          rw [q] at e
          cases e
          cases h1
          rw [intL_rep h2 q]
          rfl
def pSum : List D → (R → Prop) → Prop
  | [.lst ds], Q => match intL ds with
    | some r => Q (.d (.int r.sum))
    | none => False
  | _, _ => False
theorem ref_sum : CallRef rSum pSum := by
  intro Γ σ κ H env vs ds Q Q' I h q k
  match ds, vs, h, q with
  | [.lst ds], _, .cons (v := v) hd .nil, q =>
    unfold pSum at q
    simp only at q
    cases e1 : intL ds with
    | none => rw [e1] at q; exact q.elim
    | some r =>
      rw [e1] at q
      obtain ⟨a, ws, rfl, g1, g2, g3⟩ := hd
      have e2 := intL_rep g3 e1
      subst e2
      exact ⟨a, r, rfl, SqL.of g1, k _ κ H (.d (.int r.sum)) (.refl ..) I (.int _) q⟩
theorem ve_sum {p' : Pos} {t : PTR} (hm : ∀ i, (Y.X i).mg "sum" = none) (ha : VR Y [e] t) (hc : ∀ i, (Y.X i).calm = true := by intro _; rfl) (hg : ∀ i, Gl (Y.X i) "sum" := by intro _; rfl) (he : ∀ X : Cx, starEach [e] X.env = (false, eval e X.env) :: starEach [] X.env := by intro _; rfl) : VE Y (.Call (.Name "sum" p') [e] [] pos) (tCallP pSum t) :=
  ve_callB (fun i => cr_sum (hc i)) ref_sum hm ha hg (he := he)
/-- text.count(sign) -/
def pCount (d : D) (ds : List D) (Q : R → Prop) : Prop := match d, ds with
  | .str l, [.str [c]] => Q (.d (.int (l.count c : Nat)))
  | _, _ => False
theorem ref_count : MtRef "str" (fun _ x xs H Q => ∃ a b, x = .str a ∧ xs = [.str b] ∧ Q (.int (Txt.count a b)) H) pCount := by
  intro Γ σ κ H env v d vs ds Q Q' I hd hs q k
  match d, ds, vs, hd, hs, q with
  | .str l, [.str [c]], _, hd, .cons hx .nil, q =>
    obtain ⟨rfl, _⟩ := Rep.strE hd
    obtain ⟨rfl, _⟩ := Rep.strE hx
    refine ⟨_, _, rfl, rfl, ?_⟩
    have e : Txt.count ⟨l.toArray⟩ ⟨[c].toArray⟩ = (l.count c : Nat) := PuE.count_sign l c
    rw [e]
    exact k _ κ H (.d (.int (l.count c : Nat))) (.refl ..) I (.int _) q
theorem ve_count {apos cpos : Pos} {t : PTR} (ho : VE Y o to) (ha : VR Y [e] t) (hbase : ∀ X : Cx, attributeBase o "count" X.env (eval o X.env) = eval o X.env := by intro _; rfl)
    (hfew : ∀ X : Cx, ((backTo cpos (starEach [e] X.env)).all (fun x => !x.1) && (backToKw cpos (keywordEach [] X.env)).all (fun x => x.1.isSome)
      && decide (([e] : List Expr).length + ([] : List Keyword).length + (if ([] : List Keyword).isEmpty then 0 else 1) < 30)) = true := by intro _; rfl)
    (hline : (apos.endLine == cpos.line) = true := by rfl) (hs : ∀ X : Cx, starEach [e] X.env = (false, eval e X.env) :: starEach [] X.env := by intro _; rfl) :
    VE Y (.Call (.Attribute o "count" apos) [e] [] cpos) (tMeth "str" pCount to t) :=
  ve_meth PySem.F.plainAttrs_str PySem.F.slot_str_count PySem.F.type_str_count (fun _ => mt_count) ref_count ho ha hbase hfew hline hs
/-- name += int -/
def sAug (i : Nat) (te : PTE) : PTS := fun x P e => match e.sl[i]? with
  | some (.d (.int a)) => te x e fun r e1 => match rv r e1 with
    | some (.int b) => i < e1.sl.length ∧ P.nx (e1.setC i (.d (.int (a + b))))
    | _ => False
  | _ => False
theorem vs_aug {i : Nat} {x : Str} {p' : Pos} (hN : ∀ j, (Y.X j).N.Nodup) (he : VE Y e te) (hi : ∀ j, (Y.X j).N[i]? = some x := by intro _; rfl) (hx : ∀ j, Loc (Y.X j).env.scope x := by first | exact fun _ => Or.inl rfl | exact fun _ => Or.inr rfl)
    (hf : ∀ j, (Y.X j).fn x = true ∨ (Y.X j).env.scope.names.lookup x = some .local := by first | exact fun _ => .inl rfl | exact fun _ => .inr rfl | assumption) : VS Y (.AugAssign (.Name x p') .Add e pos) (sAug i te) := by
  obtain ⟨ra, pa, fa⟩ := he.ex
  refine ⟨⟨fun E => tAug i (ra E) (ipI fun a b => a + b), fun j => ps_aug (hN j) (hi j) (hx j) (pa j) ip_add (hf j), fun Γ σ κ H env P P' hK I q l => ?_⟩⟩
  unfold sAug at q
  cases q0 : env.sl[i]? with
  | none => rw [q0] at q; exact q.elim
  | some c =>
    rw [q0] at q
    cases c with
    | d d0 =>
      cases d0 with
      | int a =>
        have sx := I.get q0
        obtain ⟨v0, ev, rv0⟩ := sx
        cases rv0
        refine ⟨.int a, ev, ?_⟩
        refine fa Γ σ κ H env _ _ hK I q fun v κ1 H1 r1 e1 x1 I1 h1 q1 => ?_
        cases e' : rv r1 e1 with
        | none => rw [e'] at q1; exact q1.elim
        | some d1 =>
          rw [e'] at q1
          have rt := rv_ok I1 h1 e'
          cases d1 with
          | int b =>
            cases rt
            refine ⟨a, b, rfl, rfl, ?_⟩
            exact asg_ok (v := .int (a + b)) (r := .d (.int (a + b))) I1 (by rw [I1.len]; exact q1.1) (.int _) q1.2 fun κ2 e2 x2 I2 q2 => l.1 _ κ2 H1 e2 (x1.trans x2) I2 q2
          | _ => exact q1.elim
      | _ => exact q.elim
    | _ => exact q.elim
end
end Pu
set_option maxRecDepth 100000
set_option maxHeartbeats 1000000
namespace Pu
open PySem L2 PySem.Spec PyProof.Rows
/-- sorted(list of texts), sorted(text): some order of them that never falls -/
def pSortT : List D → (R → Prop) → Prop
  | [.lst ds], Q => match strL ds with
    | some r => r.length < 64 ∧ ∀ r' : List (List Nat), r'.Perm r → sortedS (r'.map fun s => (⟨s.toArray⟩ : Str)) = true → Q (.own (r'.map D.str))
    | none => False
  | [.str s], Q => s.length < 64 ∧ ∀ r' : List (List Nat), r'.Perm (s.map fun c => [c]) → sortedS (r'.map fun s => (⟨s.toArray⟩ : Str)) = true → Q (.own (r'.map D.str))
  | _, _ => False
def rSortTS (K : PySem.W.Frag) : List V → Hp → VK → Prop := fun xs H Q => rSortedS K xs H Q ∨ PuE.rSortStr xs H Q
section
variable {Γ : Gm} {κ : Ka} {H : Hp} {Y : Fam} {e a b : Expr} {pos : Pos} {σ : Sl} {env : En}
theorem perm_strs {ys : List Str} {r : List (List Nat)} (hp : ys.Perm (r.map fun s => (⟨s.toArray⟩ : Str))) : ∃ r' : List (List Nat), ys = (r'.map fun s => (⟨s.toArray⟩ : Str)) ∧ r'.Perm r := by
  refine ⟨ys.map fun y => y.cps.toList, ?_, ?_⟩
  · rw [List.map_map]
    conv => lhs; rw [← List.map_id ys]
    apply List.map_congr_left
    intro y _
    show y = ⟨y.cps.toList.toArray⟩
    simp
  · have := hp.map fun y : Str => y.cps.toList
    rw [List.map_map] at this
    have e : (r.map ((fun y : Str => y.cps.toList) ∘ fun s => (⟨s.toArray⟩ : Str))) = r := by
      conv => rhs; rw [← List.map_id r]
      apply List.map_congr_left
      intro y _
      simp
    rw [e] at this
    exact this
theorem rep_strs : ∀ {r' : List (List Nat)}, (∀ s ∈ r', SOk s) → RepL Γ.K Γ.cls κ H (r'.map fun s => V.str ⟨s.toArray⟩) (r'.map D.str)
  | [], _ => .nil
  | x :: r', h => .cons (.str x (h x (by simp))) (rep_strs fun s hs => h s (List.mem_cons_of_mem _ hs))
theorem sort_fin {ys : List Str} {r : List (List Nat)} {p : Addr} {Q : R → Prop} {Q' : VK} (I : Rl Γ κ env σ H) (h64 : r.length < 64) (e3 : ∀ s ∈ r, SOk s) (hp : ys.Perm (r.map fun s => (⟨s.toArray⟩ : Str))) (hs : sortedS ys = true) (hpn : H p = none)
    (q2 : ∀ r' : List (List Nat), r'.Perm r → sortedS (r'.map fun s => (⟨s.toArray⟩ : Str)) = true → Q (.own (r'.map D.str)))
    (k : ∀ v' κ' H' r, Ext κ H κ' H' → Rl Γ κ' env σ H' → RelR Γ κ' H' env σ v' r → Q r → Q' v' H') : Q' (.ref p) (upd H p (.lst (ys.map V.str))) := by
  obtain ⟨r', hr1, hr2⟩ := perm_strs hp
  subst hr1
  rw [List.map_map]
  refine k _ κ _ (.own _) (Ext.upd_new I.gh hpn) (I.upd_new hpn) (new_lst I hpn ?_ (rep_strs fun s hs => e3 s (hr2.mem_iff.mp hs))) (q2 r' hr2 hs)
  rw [List.length_map, hr2.length_eq, sizeLine_eq]
  omega
theorem ref_sortT : CallRef rSortTS pSortT := by
  intro Γ σ κ H env vs ds Q Q' I h q k
  match ds, vs, h, q with
  | [.lst ds], _, .cons (v := v) hd .nil, q =>
    unfold pSortT at q
    simp only at q
    cases e1 : strL ds with
    | none => rw [e1] at q; exact q.elim
    | some r =>
      rw [e1] at q
      obtain ⟨q1, q2⟩ := q
      obtain ⟨a, ws, rfl, g1, g2, g3⟩ := hd
      obtain ⟨e2, e3⟩ := strL_rep g3 e1
      subst e2
      refine .inl ⟨a, r.map fun s => (⟨s.toArray⟩ : Str), rfl, ?_, by rw [List.length_map]; exact q1, fun ys p hp hs hpn => ?_⟩
      · rw [List.map_map]; exact SqL.of g1
      · exact sort_fin I q1 e3 hp hs hpn q2 k
  | [.str s], _, .cons (v := v) hd .nil, q =>
    obtain ⟨q1, q2⟩ := q
    obtain ⟨rfl, hs⟩ := Rep.strE hd
    refine .inr ⟨_, rfl, by simpa using q1, fun ys p hp hss hpn => ?_⟩
    refine sort_fin (r := s.map fun c => [c]) I (by rw [List.length_map]; exact q1) (fun x hx => ?_) ?_ hss hpn q2 k
    · obtain ⟨c, hc, rfl⟩ := List.mem_map.mp hx
      exact hs.one hc
    · rw [List.map_map]
      have e : (⟨s.toArray⟩ : Str).cps.toList = s := by simp
      rw [e] at hp
      exact hp
theorem ve_sortT {p' : Pos} {t : PTR} (hm : ∀ i, (Y.X i).mg "sorted" = none) (ha : VR Y [e] t) (hc : ∀ i, (Y.X i).calm = true := by intro _; rfl) (hg : ∀ i, Gl (Y.X i) "sorted" := by intro _; rfl) (he : ∀ X : Cx, starEach [e] X.env = (false, eval e X.env) :: starEach [] X.env := by intro _; rfl) : VE Y (.Call (.Name "sorted" p') [e] [] pos) (tCallP pSortT t) :=
  ve_callB (r := rSortTS) (fun i => CallR.or cr_sortedS (PuE.call_sortStr (hc i))) ref_sortT hm ha hg (he := he)
end
end Pu
set_option maxRecDepth 100000
set_option maxHeartbeats 4000000
/-! enumerate over a list, a tuple, a text -/
namespace PuE
open PySem PySem.Spec PyProof.Rows L2 PySem.W
theorem meets_enum_any {v : Value} {o : Obj} {H : Heap → Prop} (B : Begins v o H) :
    Meets (Builtin.«enumerate.__new__» ⟨[.type "enumerate", v], []⟩) (fun _ R s => H s.heap ∧
      R (.ok (.ret (.ref (s.heap.push o).objs.size))) { s with heap := (s.heap.push o).push { cls := .type "enumerate", data := .fields #[.none, .bool false, .ref s.heap.objs.size, rawInt 0, .none, .none] } }) :=
  .of_wp fun prog w A R s z => by
    obtain ⟨hp, g, d, tk, os⟩ := s
    obtain ⟨z1, z⟩ := z
    have hs0 := sub_enumerate
    have it1 : ∀ {A' : Around} {E : Value → Shared → Prop} {Q : Value → Shared → Prop}, Q (.ref hp.objs.size) ⟨hp.push o, g, d, tk, os⟩ → wpAny (model prog w) A' (pyIter v) Q E ⟨hp, g, d, tk, os⟩ :=
      fun q => B.iter prog w _ _ ⟨hp, g, d, tk, os⟩ _ z1 q
    wp_walk using it1
    refine wpAny_stack_any fun st => wpAny_pure ?_
    split
    · rename_i c _ _ _ _ _
      cases (c == Value.type "enumerate")
      · wp_walk using it1
        exact ⟨_, rfl, z⟩
      · wp_walk using it1
        exact ⟨_, rfl, z⟩
    · wp_walk using it1
      exact ⟨_, rfl, z⟩
section
variable {prog : Program} {w : World} {A : Around} {E : Value → Shared → Prop} {s : Shared}
theorem call_enum_any {v : Value} {o : Obj} {H : Heap → Prop} {Q : Value → Shared → Prop} (B : Begins v o H) (h1 : H s.heap)
    (h : ∀ h', IsEnum h' (s.heap.objs.size + 1) s.heap.objs.size ((0 : Nat) : Int) .none → h'.get? s.heap.objs.size = some o → (∀ b o, s.heap.get? b = some o → h'.get? b = some o) → Q (.ref (s.heap.objs.size + 1)) { s with heap := h' }) :
    wpAny (model prog w) A (call (.type "enumerate") [v]) Q E s := by
  refine callType_new F.called_enumerate (by decide) (F.typeCall_enumerate_1 _) (F.newCall_enumerate_1 _) (fun obj => F.args_object_init_2 obj _) F.entry_enumerate_new
    (meets_enum_any B) ⟨h1, ?_⟩
  have hz : (s.heap.push o).objs.size = s.heap.objs.size + 1 := Heap.size_push ..
  show _ ∧ _
  rw [hz]
  have e1 := Heap.get?_push_size (s.heap.push o) (o := { cls := .type "enumerate", data := .fields #[.none, .bool false, .ref s.heap.objs.size, rawInt 0, .none, .none] }) rfl
  rw [hz] at e1
  exact ⟨⟨_, e1, rfl⟩, h _ e1 (Heap.get?_push_of_some _ (Heap.get?_push_size _ B.free)) fun b o x => Heap.get?_push_of_some _ (Heap.get?_push_of_some _ x)⟩
end
/-- the signs of x, each in a new pair -/
def Ies (x : Str) : It :=
  ⟨fun i _ => i < x.cps.size, fun i H v H' => ∃ T c, v = .ref T ∧ H T = none ∧ H' = upd H T (.tup [.int (i : Nat), .str ⟨#[c]⟩]) ∧ x.cps[i]? = some c, fun i _ => x.cps.size ≤ i⟩
/-- the items of the tuple at a, each in a new pair -/
def Iet (K : PySem.W.Frag) (a : Addr) : It :=
  ⟨fun i H => ∃ (xs : List V) (x : V), SqT K H a xs ∧ xs[i]? = some x, fun i H v H' => ∃ T x, v = .ref T ∧ H T = none ∧ H' = upd H T (.tup [.int (i : Nat), x]) ∧ ∀ xs, SqT K H a xs → xs[i]? = some x, fun i H => ∃ xs : List V, SqT K H a xs ∧ xs.length ≤ i⟩
/-- one turn, whatever is drawn -/
theorem turn_en {X : Cx} {pins : List (Addr × Obj)} {s : Shared} {σ : L2.St} {H : Hp} {E : Value → Shared → Prop} {e it : Addr} {fp : List Addr} {n i : Nat} {Pd : Nat → Value → Prop} {St : Nat → Heap → Prop} {old : Value} {elts : List Expr} {kk : Nat} {tpos : Pos} {R : V → Hp → Heap → Prop}
    (D : Draws X.prog X.w X.A.in1 it fp n Pd St) (I : Inv X pins σ H s) (hf : ∀ b ∈ [e, it], FpOk X pins H b) (he : IsEnum s.heap e it ((i : Nat) : Int) old) (hst : St i s.heap) (hlt : i < n) (hne : e ≠ it) (hef : e ∉ fp)
    (hR : ∀ u h2, Pd i u → St (i + 1) h2 → ∃ x, RelV x u ∧ ∀ T, H T = none → R (.ref T) (upd H T (.tup [.int (i : Nat), x])) h2) :
    wpAny (model X.prog X.w) X.A (pyNext (.ref e)) (fun r s1 => ∃ u, r = some u ∧
      wpAny (model X.prog X.w) X.A (letOwnedTupleGo (.Tuple elts kk tpos) (.ref e) u) (fun _ s2 => ∃ x H', Inv X pins σ H' s2 ∧ RelV x u ∧ R x H' s2.heap ∧ (∃ old, IsEnum s2.heap e it ((i + 1 : Nat) : Int) old) ∧ St (i + 1) s2.heap ∧ ∀ b ∈ [e, it], H' b = none) E s1) E s := by
  have hel : e < s.heap.objs.size := Heap.lt_size he
  have hil : it < s.heap.objs.size := by obtain ⟨_, y⟩ := D.live _ _ hst; exact Heap.lt_size y
  refine wpAny_pyNext_enum_itemD D he hst hlt hne hef fun u h' tk hP ho hs' hT hsz hk => ?_
  refine ⟨_, rfl, wpAny_letOwnedTupleGo_enum (s := { s with heap := h', toks := tk + 1 }) ho fun h'' he' sb => ?_⟩
  have hs2 : St (i + 1) h'' := D.frame _ _ _ hs' fun b hb o y => (sb.2 b fun q => hef (q ▸ hb)).trans y
  obtain ⟨x, rx, hx⟩ := hR u h'' hP hs2
  have hT2 : h''.get? s.heap.objs.size = some { cls := .type "tuple", data := .seq #[.int i tk, u] } := (sb.2 _ (Nat.ne_of_gt hel)).trans hT
  have new : ObjOk X.prog X.w (upd H s.heap.objs.size (.tup [.int (i : Nat), x])) h'' s.heap.objs.size (.tup [.int (i : Nat), x]) :=
    ⟨by show 2 ≤ sizeLine; decide, [.int i tk, u], .cons ⟨_, rfl⟩ (.cons rx .nil), ⟨_, hT2, rfl, _, rfl⟩⟩
  have I1 : Inv X pins σ (upd H s.heap.objs.size (.tup [.int (i : Nat), x])) { s with heap := h'', toks := tk + 1 } :=
    I.turnedNew (ch := [e, it]) (fun b ob hb q => (sb.2 b (fun z => hb (by simp [z]))).trans (hk b ob (fun z => hb (by simp [z])) (fun z => hb (by simp [z])) q)) hf (Nat.le_refl _) new
  refine ⟨.ref s.heap.objs.size, _, I1, rfl, hx _ (I.hok.fresh (Nat.le_refl _)), ⟨u, ?_⟩, hs2, fun b hb => ?_⟩
  · have e1 : ((i + 1 : Nat) : Int) = (i : Int) + 1 := by omega
    rw [e1]; exact he'
  · have hb' : b < s.heap.objs.size := by
      have e' : b = e ∨ b = it := by simpa using hb
      rcases e' with z | z
      · rw [z]; exact hel
      · rw [z]; exact hil
    rw [upd_ne (Nat.ne_of_lt hb')]
    exact (hf b hb).1
theorem turn_enS {P : Program} {w : World} {K : PySem.W.Frag} {elts : List Expr} {kk : Nat} {tpos : Pos} (e it : Addr) (x : Str) (t : Tok) :
    Turn P w K (.Tuple elts kk tpos) (Ies x) [e, it] e (fun i h => (∃ old, IsEnum h e it ((i : Nat) : Int) old) ∧ h.IsStrIter it (strIterType x) x t i ∧ e ≠ it) where
  mem := by simp
  obj := fun i h st b hb => by
    obtain ⟨⟨old, he⟩, ⟨o, ho, hc, hd⟩, _⟩ := st
    have e' : b = e ∨ b = it := by simpa using hb
    rcases e' with z | z
    · rw [z]; exact ⟨_, he, fun v q => nomatch q⟩
    · rw [z]; exact ⟨o, ho, fun v q => by rw [hd] at q; cases q⟩
  keep := fun i h h' st k => by
    obtain ⟨⟨old, he⟩, ⟨o, ho, r⟩, hne⟩ := st
    exact ⟨⟨old, k e (by simp) _ he⟩, ⟨o, k it (by simp) o ho, r⟩, hne⟩
  item := by
    intro X hP hw hK hc i pins s σ H E I hf st hg
    subst hP hw hK
    obtain ⟨⟨old, he⟩, hit, hne⟩ := st
    have D := Draws.text (prog := X.prog) (w := X.w) (A := X.A.in1) (I.ok.hd hc) it x t
    refine wpAny_mono (turn_en (elts := elts) (kk := kk) (tpos := tpos) (R := fun v H' _ => (Ies x).yld i H v H') D I hf he hit hg hne (by simpa using hne) fun u h2 hP _ => ?_) (fun r s1 ⟨u, e1, q⟩ => ⟨u, e1, wpAny_mono q (fun _ s2 ⟨v, H', a, b, c, d, f, g⟩ => ⟨v, H', a, b, c, ⟨d, f, hne⟩, g⟩) fun _ _ z => z⟩) fun _ _ z => z
    obtain ⟨c, u', hcx, rfl⟩ := hP
    exact ⟨.str ⟨#[c]⟩, ⟨u', rfl⟩, fun T hT => ⟨T, c, rfl, hT, rfl, hcx⟩⟩
  done := by
    intro X hP hw hK hc i pins s σ H E I hf st hg
    subst hP hw hK
    obtain ⟨⟨old, he⟩, hit, hne⟩ := st
    obtain ⟨f0, f1, f2, f3, f4, f5⟩ := hf it (by simp)
    have hg : x.cps.size ≤ i := hg
    have hx : x.cps[i]? = none := by simp; omega
    have hT : s.TypeIs (.ref e) "enumerate" := ⟨_, he, rfl⟩
    unfold pyNext
    refine wpAny_bind (wpAny_attempt (wpAny_callSpecial?_slot (name := Str.ofString "__next__") hT F.slot_enumerate_next
      (wpAny_call_entry F.slot_enumerate_next hT F.entry_enumerate_next ?_ (F.args_enumerate_next_1 _))))
    show wpAny _ _ (field (.ref e) 2 >>= _) _ _ _
    refine wpAny_bind (wpAny_field he rfl (x := .ref it) rfl ?_)
    refine wpAny_bind ?_
    have fin : ∀ (h' : Heap) (b : Addr), Heap.ExtBut it s.heap h' → (∃ o, h'.get? b = some o ∧ o.cls = .type "StopIteration") →
      wpAny (model X.prog X.w) X.A.in1 (Builtin.SmallTypes.nextOf (.ref it)) (fun _ _ => True) (fun _ _ => True) s → True := fun _ _ _ _ _ => trivial
    have go : ∀ {Q : Value → Shared → Prop} {Ee : Value → Shared → Prop}, (∀ h' e, Heap.ExtBut it s.heap h' → (∃ o, h'.get? e = some o ∧ o.cls = .type "StopIteration") → Ee (.ref e) { s with heap := h' }) → wpAny (model X.prog X.w) X.A.in1 (Builtin.SmallTypes.nextOf (.ref it)) Q Ee s := by
      intro Q Ee q
      cases ha : x.cps.all (· < 128)
      · simp only [strIterType, ha, Bool.false_eq_true, if_false] at hit
        exact wpAny_nextOf_wide_end (I.ok.hd hc) hit hx q
      · simp only [strIterType, ha, if_true] at hit
        exact wpAny_nextOf_ascii_end (I.ok.hd hc) hit hx q
    refine go fun h' x' he' hx' => ?_
    obtain ⟨o, ho, hcl⟩ := hx'
    refine wpAny_bind (wpAny_isInstance (T := "StopIteration") (b := true) ⟨o, ho, hcl⟩ isSubtype_stop ?_)
    exact wpAny_pure ⟨rfl, I.turned (t' := s.toks) (fun b o hb q => he' b o hb q) f0 f1 f3 f4 f5⟩
  self := fun A i s Q E st h => let ⟨⟨_, he⟩, _⟩ := st; wpAny_pyIter_enum he h
theorem turn_enT {P : Program} {w : World} {K : PySem.W.Frag} {elts : List Expr} {kk : Nat} {tpos : Pos} (a e it : Addr) :
    Turn P w K (.Tuple elts kk tpos) (Iet K a) [e, it] e (fun i h => (∃ old, IsEnum h e it ((i : Nat) : Int) old) ∧ h.IsTupleIter it a i ∧ e ≠ it ∧ a ≠ it ∧ e ≠ a) where
  mem := by simp
  obj := fun i h st b hb => by
    obtain ⟨⟨old, he⟩, ⟨o, ho, hc, hd⟩, _⟩ := st
    have e' : b = e ∨ b = it := by simpa using hb
    rcases e' with z | z
    · rw [z]; exact ⟨_, he, fun v q => nomatch q⟩
    · rw [z]; exact ⟨o, ho, fun v q => by rw [hd] at q; cases q⟩
  keep := fun i h h' st k => by
    obtain ⟨⟨old, he⟩, ⟨o, ho, r⟩, hne⟩ := st
    exact ⟨⟨old, k e (by simp) _ he⟩, ⟨o, k it (by simp) o ho, r⟩, hne⟩
  item := by
    intro X hP hw hK hc i pins s σ H E I hf st hg
    subst hP hw hK
    obtain ⟨⟨old, he⟩, hit, hne, hne2, hne3⟩ := st
    obtain ⟨xs, x, hq, hx⟩ := hg
    obtain ⟨its, rv, p, hz⟩ := I.tuple hq
    obtain ⟨u, hu, ru⟩ := rv.get hx
    have D := Draws.tuple (prog := X.prog) (w := X.w) (A := X.A.in1) (I.ok.hd hc) it a hne2 its.toArray
    have hlt : i < its.toArray.size := by simpa using (List.getElem?_eq_some_iff.mp hu).1
    refine wpAny_mono (turn_en (elts := elts) (kk := kk) (tpos := tpos) (R := fun v H' _ => (Iet X.K a).yld i H v H') D I hf he ⟨hit, p⟩ hlt hne (by simp [hne, hne3]) fun u' h2 hP _ => ?_) (fun r s1 ⟨u, e1, q⟩ => ⟨u, e1, wpAny_mono q (fun _ s2 ⟨v, H', a, b, c, d, f, g⟩ => ⟨v, H', a, b, c, ⟨d, f.1, hne, hne2, hne3⟩, g⟩) fun _ _ z => z⟩) fun _ _ z => z
    have hP : its.toArray[i]? = some u' := hP
    rw [List.getElem?_toArray, hu] at hP
    cases hP
    exact ⟨x, ru, fun T hT => ⟨T, x, rfl, hT, rfl, fun ys hy => by rw [I.tuple_inj hy hq]; exact hx⟩⟩
  done := by
    intro X hP hw hK hc i pins s σ H E I hf st hg
    subst hP hw hK
    obtain ⟨⟨old, he⟩, hit, hne, hne2, hne3⟩ := st
    obtain ⟨xs, hq, hx⟩ := hg
    obtain ⟨its, rv, p, hz⟩ := I.tuple hq
    obtain ⟨f0, f1, f2, f3, f4, f5⟩ := hf it (by simp)
    have hl := rv.length
    have hxn : its.toArray[i]? = none := by simp; omega
    have hT : s.TypeIs (.ref e) "enumerate" := ⟨_, he, rfl⟩
    unfold pyNext
    refine wpAny_bind (wpAny_attempt (wpAny_callSpecial?_slot (name := Str.ofString "__next__") hT F.slot_enumerate_next
      (wpAny_call_entry F.slot_enumerate_next hT F.entry_enumerate_next ?_ (F.args_enumerate_next_1 _))))
    show wpAny _ _ (field (.ref e) 2 >>= _) _ _ _
    refine wpAny_bind (wpAny_field he rfl (x := .ref it) rfl ?_)
    refine wpAny_bind (wpAny_nextOf_tuple_end (I.ok.hd hc) hit p hxn fun h' x' he' hx' => ?_)
    obtain ⟨o, ho, hcl⟩ := hx'
    refine wpAny_bind (wpAny_isInstance (T := "StopIteration") (b := true) ⟨o, ho, hcl⟩ isSubtype_stop ?_)
    exact wpAny_pure ⟨rfl, I.turned (t' := s.toks) (fun b o hb q => he' b o hb q) f0 f1 f3 f4 f5⟩
  self := fun A i s Q E st h => let ⟨⟨_, he⟩, _⟩ := st; wpAny_pyIter_enum he h
def iEnumA (K : PySem.W.Frag) (ta : TA) : TI := fun σ H R => ta σ H fun vs H1 => (∃ a xs, vs = [.ref a] ∧ SqL K H1 a xs ∧ R (Ite K a) H1) ∨ (∃ a xs, vs = [.ref a] ∧ SqT K H1 a xs ∧ R (Iet K a) H1) ∨ ∃ y, vs = [.str y] ∧ R (Ies y) H1
theorem pi_enumA {X : Cx} {e : Expr} {ta : TA} {p pos tpos : Pos} {elts : List Expr} {kk : Nat} (hg : Gl X "enumerate") (hm : X.mg "enumerate" = none) (ha : PA X [e] ta) (hs : starEach [e] X.env = [(false, eval e X.env)] := by rfl) :
    PI X (.Tuple elts kk tpos) (.Call (.Name "enumerate" p) [e] [] pos) (iEnumA X.K ta) := by
  refine ⟨fun pins s σ H R I h => ?_⟩
  refine Call_ (ld_blt I hg hm boot_enumerate (PyProof.Rows.callWith_type1 (thn (ha.run pos pins s σ H _ I h) fun us s1 ⟨vs, H1, I1, r1, q1⟩ => ?_) hs rfl))
  have fresh : ∀ b ∈ [s1.heap.objs.size + 1, s1.heap.objs.size], FpOk X pins H1 b := fun b hb => by
    have e' : b = s1.heap.objs.size + 1 ∨ b = s1.heap.objs.size := by simpa using hb
    have hle : s1.heap.objs.size ≤ b := by
      rcases e' with z | z
      · rw [z]; exact Nat.le_add_right _ _
      · rw [z]; exact Nat.le_refl _
    exact I1.fpOk hle (I1.hok.fresh hle)
  rcases q1 with ⟨a, xs, ex, hq, q⟩ | ⟨a, xs, ex, hq, q⟩ | ⟨y, ex, q⟩
  · subst ex
    cases r1 with
    | cons r rr =>
      cases rr
      cases r
      obtain ⟨its, rv, p', hz⟩ := I1.list hq
      refine call_enum_any (begins_list a its.toArray) p'.isList fun h' he hit hk => wpAny_pyIter_enum he ?_
      have I2 : Inv X pins σ H1 { s1 with heap := h' } := I1.kept (t' := s1.toks) hk
      exact ⟨s1.heap.objs.size + 1, [s1.heap.objs.size + 1, s1.heap.objs.size], _, _, H1, rfl, I2, turn_enum a (s1.heap.objs.size + 1) s1.heap.objs.size, ⟨⟨.none, he⟩, ⟨_, hit, rfl, rfl⟩, Nat.succ_ne_self _⟩, fresh, q⟩
  · subst ex
    cases r1 with
    | cons r rr =>
      cases rr
      cases r
      obtain ⟨its, rv, p', hz⟩ := I1.tuple hq
      have hal : a < s1.heap.objs.size := by obtain ⟨o, ho, _⟩ := p'; exact Heap.lt_size ho
      refine call_enum_any (begins_tuple a its.toArray) (show s1.heap.IsTuple a its.toArray from p') fun h' he hit hk => wpAny_pyIter_enum he ?_
      have I2 : Inv X pins σ H1 { s1 with heap := h' } := I1.kept (t' := s1.toks) hk
      exact ⟨s1.heap.objs.size + 1, [s1.heap.objs.size + 1, s1.heap.objs.size], _, _, H1, rfl, I2, turn_enT a (s1.heap.objs.size + 1) s1.heap.objs.size, ⟨⟨.none, he⟩, ⟨_, hit, rfl, rfl⟩, Nat.succ_ne_self _, Nat.ne_of_lt hal, Nat.ne_of_gt (Nat.lt_succ_of_lt hal)⟩, fresh, q⟩
  · subst ex
    cases r1 with
    | cons r rr =>
      cases rr
      obtain ⟨t, rfl⟩ := r
      refine call_enum_any (begins_text y t) trivial fun h' he hit hk => wpAny_pyIter_enum he ?_
      have I2 : Inv X pins σ H1 { s1 with heap := h' } := I1.kept (t' := s1.toks) hk
      exact ⟨s1.heap.objs.size + 1, [s1.heap.objs.size + 1, s1.heap.objs.size], _, _, H1, rfl, I2, turn_enS (s1.heap.objs.size + 1) s1.heap.objs.size y t, ⟨⟨.none, he⟩, ⟨_, hit, rfl, rfl⟩, Nat.succ_ne_self _⟩, fresh, q⟩
end PuE
namespace Pu
open PySem L2 PySem.Spec PyProof.Rows
section
variable {Γ Γ' : Gm} {κ κ' : Ka} {H H' : Hp} {env env' : En} {σ : Sl} {v : V} {st : Sto} {Y : Fam} {a b e o : Expr} {es : List Expr} {ta tb te to ti : PTE} {pos : Pos}
def enumF : Nat → List D → List D
  | _, [] => []
  | i, d :: ds => .tup [.int i, d] :: enumF (i + 1) ds
theorem enumF_get : ∀ (ds : List D) (k i : Nat), (enumF k ds)[i]? = ds[i]?.map fun d => .tup [.int ((k + i : Nat) : Int), d]
  | [], _, _ => by simp [enumF]
  | d :: ds, k, 0 => by simp [enumF]
  | d :: ds, k, i + 1 => by
    have e1 : k + 1 + i = k + (i + 1) := by omega
    rw [enumF, List.getElem?_cons_succ, List.getElem?_cons_succ, enumF_get ds (k + 1) i, e1]
theorem enumF_length : ∀ (ds : List D) (k : Nat), (enumF k ds).length = ds.length
  | [], _ => rfl
  | d :: ds, k => by simp [enumF, enumF_length ds]
theorem pair_new {T : Addr} {x : V} {d : D} {i : Nat} (I : Rl Γ κ env σ H) (h : H T = none) (r : Rep Γ.K Γ.cls κ H x d) :
    ∃ κ', Ext κ H κ' (upd H T (.tup [.int (i : Nat), x])) ∧ Rl Γ κ' env σ (upd H T (.tup [.int (i : Nat), x])) ∧ Rep Γ.K Γ.cls κ' (upd H T (.tup [.int (i : Nat), x])) (.ref T) (.tup [.int (i : Nat), d]) :=
  ⟨_, new_tup I h (by show 2 ≤ sizeLine; decide) (.cons (.int _) (.cons r .nil))⟩
theorem src_enL {a : Addr} {vs : List V} {ds : List D} (hk : κ a = some .frz) (ha : H a = some (.lst vs)) (r : RepL Γ.K Γ.cls κ H vs ds) : Src Γ.K Γ.cls κ H (Ite Γ.K a) (enumF 0 ds) := by
  intro Γ2 hK hc
  rw [← hK, ← hc] at r
  rw [← hK]
  intro σ κ1 H1 env i I x
  have h1 : SqL Γ2.K H1 a vs := SqL.of ((x.2 a hk).trans ha)
  refine ⟨fun d e => ?_, fun e => ⟨vs, h1, by rw [r.length, ← e, enumF_length]; exact Nat.le_refl _⟩⟩
  rw [enumF_get] at e
  cases q : ds[i]? with
  | none => rw [q] at e; cases e
  | some y =>
    rw [q] at e
    cases e
    obtain ⟨v, e1, r1⟩ := r.get q
    refine ⟨⟨vs, v, h1, e1⟩, fun w H' yy => ?_⟩
    obtain ⟨T, z, rfl, hT, rfl, hz⟩ := yy
    have hz := hz vs h1
    rw [e1] at hz
    cases hz
    rw [Nat.zero_add]
    exact pair_new I hT (r1.mono x)
theorem src_enT {a : Addr} {vs : List V} {ds : List D} (h : Rep Γ.K Γ.cls κ H (.ref a) (.tup ds)) : Src Γ.K Γ.cls κ H (PuE.Iet Γ.K a) (enumF 0 ds) := by
  intro Γ2 hK hc
  rw [← hK, ← hc] at h
  rw [← hK]
  intro σ κ1 H1 env i I x
  obtain ⟨b, vs, e0, h1, _, r⟩ := (h.mono x).sqT
  cases e0
  refine ⟨fun d e => ?_, fun e => ⟨vs, h1, by rw [r.length, ← e, enumF_length]; exact Nat.le_refl _⟩⟩
  rw [enumF_get] at e
  cases q : ds[i]? with
  | none => rw [q] at e; cases e
  | some y =>
    rw [q] at e
    cases e
    obtain ⟨v, e1, r1⟩ := r.get q
    refine ⟨⟨vs, v, h1, e1⟩, fun w H' yy => ?_⟩
    obtain ⟨T, z, rfl, hT, rfl, hz⟩ := yy
    have hz := hz vs h1
    rw [e1] at hz
    cases hz
    rw [Nat.zero_add]
    exact pair_new I hT r1
theorem src_enS {K : PySem.W.Frag} {cl : Nat → Addr} {s : List Nat} (hs : SOk s) : Src K cl κ H (PuE.Ies ⟨s.toArray⟩) (enumF 0 (signs s)) := by
  intro Γ2 hK hc σ κ1 H1 env i I x
  have hl : (signs s).length = s.length := signs_length s
  refine ⟨fun d e => ?_, fun e => ?_⟩
  · rw [enumF_get] at e
    unfold signs at e
    rw [List.getElem?_map] at e
    cases q : s[i]? with
    | none => rw [q] at e; cases e
    | some c =>
      rw [q] at e
      cases e
      refine ⟨by show i < (⟨s.toArray⟩ : Str).cps.size; simpa using (List.getElem?_eq_some_iff.mp q).1, fun v H' y => ?_⟩
      obtain ⟨T, c', rfl, hT, rfl, e1⟩ := y
      have e1 : s.toArray[i]? = some c' := e1
      rw [List.getElem?_toArray, q] at e1
      cases e1
      rw [Nat.zero_add]
      exact pair_new I hT (.str _ (hs.one (List.mem_of_getElem? q)))
  · show (⟨s.toArray⟩ : Str).cps.size ≤ i
    rw [← e, enumF_length, hl]
    simp
def D.walkE : D → Option (List D)
  | .lst ds => some ds
  | .tup ds => some ds
  | .str s => some (signs s)
  | _ => none
def iEnumP (t : PTR) : PTI := fun x e Q => t x e fun rs e1 => match rs with
  | [r] => fz r e1 fun d e2 => match d.walkE with
    | some ds => Q (enumF 0 ds) e2
    | none => False
  | _ => False
theorem vi_enum {elts : List Expr} {kk : Nat} {tpos : Pos} {p : Pos} {t : PTR} (hm : ∀ i, (Y.X i).mg "enumerate" = none) (ha : VR Y [e] t) (hg : ∀ i, Gl (Y.X i) "enumerate" := by intro _; rfl) (hs : ∀ X : Cx, starEach [e] X.env = [(false, eval e X.env)] := by intro _; rfl) :
    VI Y (.Tuple elts kk tpos) (.Call (.Name "enumerate" p) [e] [] pos) (iEnumP t) := by
  obtain ⟨ra, pa, fa⟩ := ha.ex
  refine ⟨⟨fun E => PuE.iEnumA Y.K (ra E), fun i => by have := PuE.pi_enumA (elts := elts) (kk := kk) (tpos := tpos) (p := p) (pos := pos) (hg i) (hm i) (pa i) (hs _); rw [Y.hK i] at this; exact this, fun Γ σ κ H env Q Q' hK I q k => ?_⟩⟩
  refine fa Γ σ κ H env _ _ hK I q fun vs κ1 H1 rs e1 x1 I1 h1 q1 => ?_
  match rs, vs, h1, q1 with
  | [r], [v], .cons h1 .nil, q1 =>
    refine fz_ok I1 h1.rel q1 fun κ2 d e2 x2 I2 h2 q2 => ?_
    rw [← hK.k]
    cases d with
    | lst ds =>
      cases h2 with
      | lst g1 g2 g3 g4 => exact .inl ⟨_, _, rfl, SqL.of g2, k _ κ2 H1 _ e2 (x1.trans x2) I2 (src_enL g1 g2 g4) q2⟩
    | tup ds =>
      obtain ⟨a, vs, rfl, g1, _, _⟩ := h2.sqT
      exact .inr (.inl ⟨a, vs, rfl, g1, k _ κ2 H1 _ e2 (x1.trans x2) I2 (src_enT (vs := vs) h2) q2⟩)
    | str s =>
      obtain ⟨rfl, hs⟩ := h2.strE
      exact .inr (.inr ⟨_, rfl, k _ κ2 H1 _ e2 (x1.trans x2) I2 (src_enS hs) q2⟩)
    | _ => exact False.elim q2
  | [], _, _, q1 => exact False.elim q1
  | _ :: _ :: _, _, _, q1 => exact False.elim q1
end
end Pu
set_option maxRecDepth 100000
set_option maxHeartbeats 4000000
/-! dicts with keys ints and texts, by a name -/
namespace Pu
open PySem L2
section
variable {K : PySem.W.Frag} {cl : Nat → Addr} {Γ Γ' : Gm} {κ κ' : Ka} {H H' : Hp} {env env' : En} {σ : Sl} {v : V} {st : Sto} {Y : Fam} {a b e o i : Expr} {es : List Expr} {ta tb te to ti : PTE} {pos : Pos}
def keyD : D → Option Key
  | .int i => some (.inl i)
  | .str s => some (.inr ⟨s.toArray⟩)
  | _ => none
theorem keyD_rep {d : D} {k : Key} (h : Rep K cl κ H v d) (e : keyD d = some k) : v = kV k := by
  cases d with
  | int i => cases e; cases h; rfl
  | str s => cases e; obtain ⟨rfl, _⟩ := h.strE; rfl
  | _ => cases e
def getK (kvs : List (Key × D)) (k : Key) : Option D := (kvs.find? fun kv => decide (kv.1 = k)).map (·.2)
def setK (kvs : List (Key × D)) (k : Key) (d : D) : List (Key × D) :=
  if (kvs.any fun kv => decide (kv.1 = k)) = true then kvs.map (fun kv => if kv.1 = k then (kv.1, d) else kv) else kvs ++ [(k, d)]
theorem PR.any : ∀ {ds : List (Key × D)} {vs : List (Key × V)} (k : Key), PR K cl κ H vs ds → (vs.any fun kv => decide (kv.1 = k)) = ds.any fun kv => decide (kv.1 = k)
  | [], _, _, h => by cases h; rfl
  | d :: ds, _, k, h => by cases h with | cons h1 h2 => rw [List.any_cons, List.any_cons, PR.any k h2]
theorem PR.appendP : ∀ {ds es : List (Key × D)} {vs ws : List (Key × V)}, PR K cl κ H vs ds → PR K cl κ H ws es → PR K cl κ H (vs ++ ws) (ds ++ es)
  | [], _, _, _, h, g => by cases h; exact g
  | _ :: _, _, _, _, h, g => by cases h with | cons h1 h2 => exact .cons h1 (PR.appendP h2 g)
theorem PR.repl {v : V} {d : D} (r : Rep K cl κ H v d) (k : Key) : ∀ {ds : List (Key × D)} {vs : List (Key × V)}, PR K cl κ H vs ds → PR K cl κ H (vs.map fun kv => if kv.1 = k then (kv.1, v) else kv) (ds.map fun kv => if kv.1 = k then (kv.1, d) else kv)
  | [], _, h => by cases h; exact .nil
  | (j, y) :: ds, _, h => by
    cases h with
    | cons h1 h2 =>
      rw [List.map_cons, List.map_cons]
      by_cases e : j = k
      · rw [if_pos e, if_pos e]; exact .cons r (PR.repl r k h2)
      · rw [if_neg e, if_neg e]; exact .cons h1 (PR.repl r k h2)
theorem PR.put {v : V} {d : D} (r : Rep K cl κ H v d) (k : Key) {ds : List (Key × D)} {vs : List (Key × V)} (h : PR K cl κ H vs ds) : PR K cl κ H (putK vs k v) (setK ds k d) := by
  unfold putK setK
  rw [PR.any k h]
  by_cases e : (ds.any fun kv => decide (kv.1 = k)) = true
  · rw [if_pos e, if_pos e]; exact PR.repl r k h
  · rw [if_neg e, if_neg e]; exact PR.appendP h (.cons r .nil)
theorem PR.find (k : Key) : ∀ {ds : List (Key × D)} {vs : List (Key × V)}, PR K cl κ H vs ds → (getK ds k = none ∧ valV vs k = none) ∨ ∃ d v, getK ds k = some d ∧ valV vs k = some v ∧ Rep K cl κ H v d
  | [], _, h => by cases h; exact .inl ⟨rfl, rfl⟩
  | (j, y) :: ds, _, h => by
    cases h with
    | @cons _ w _ _ _ h1 h2 =>
      by_cases e : j = k
      · refine .inr ⟨y, w, ?_, valV_pos e, h1⟩
        unfold getK
        rw [List.find?_cons_of_pos (by simpa using e)]
        rfl
      · have e1 : getK ((j, y) :: ds) k = getK ds k := by
          unfold getK
          rw [List.find?_cons_of_neg (by simpa using e)]
        rw [e1, valV_neg e]
        exact PR.find k h2
def kget : R → En → Option (List (Key × D))
  | .nam i, e => match e.sl[i]? with
    | some (.dK ds) => some ds
    | _ => none
  | _, _ => none
def kset : R → En → List (Key × D) → En
  | .nam i, e, ds => e.setC i (.dK ds)
  | _, e, _ => e
theorem dct_ok {r : R} {ds : List (Key × D)} (I : Rl Γ κ env σ H) (h : HeldR Γ κ H σ v r) (e : kget r env = some ds) : ∃ a vs, v = .ref a ∧ H a = some (.dK vs) ∧ PR Γ.K Γ.cls κ H vs ds ∧
    ∀ vs' ds', PR Γ.K Γ.cls κ H vs' ds' → Ext κ H κ (upd H a (.dK vs')) ∧ Rl Γ κ (kset r env ds') σ (upd H a (.dK vs')) := by
  cases r with
  | nam i =>
    have h : σ[i]? = some (some v) := h
    unfold kget at e
    simp only at e
    cases q : env.sl[i]? with
    | none => rw [q] at e; cases e
    | some c =>
      have s := I.get q
      rw [q] at e
      cases c with
      | dK ds' =>
        cases e
        obtain ⟨a, e1, k1, h0, vs, h2, h4⟩ := s
        rw [h] at e1
        cases e1
        refine ⟨a, vs, rfl, h2, h4, fun vs' ds' r' => ?_⟩
        have x : Ext κ H κ (L2.upd H a (.dK vs')) := Ext.upd k1
        have hi : i < env.sl.length := (List.getElem?_eq_some_iff.mp q).1
        have own_i : OwnS env σ i a := ⟨h, _, q, rfl⟩
        refine ⟨x, ⟨by rw [I.len]; simp [kset, En.setC], fun j c ec => ?_, fun j l b o1 o2 => ?_, I.gh.upd k1 h0⟩⟩
        · have ec : (env.sl.set i (C.dK ds'))[j]? = some c := ec
          by_cases hj : j = i
          · subst hj
            rw [List.getElem?_set_self hi] at ec
            cases ec
            exact ⟨a, h, k1, h0, vs', upd_same, r'.mono x⟩
          · rw [List.getElem?_set_ne (Ne.symm hj)] at ec
            have s := I.get ec
            cases hc : c.isOwn with
            | true =>
              obtain ⟨b, e1, hb⟩ := s.own hc
              have hba : b ≠ a := fun z => hj (I.dist j i a ⟨z ▸ e1, c, ec, hc⟩ own_i)
              exact .mk e1 (hb.ext x hb.facts.1 (upd_ne hba))
            | false =>
              cases c with
              | un => trivial
              | d d => obtain ⟨v, e1, r⟩ := s; exact ⟨v, e1, r.mono x⟩
              | _ => cases hc
        · have old : ∀ m, OwnS (env.setC i (.dK ds')) σ m b → OwnS env σ m b := fun m ⟨z1, c, z2, z3⟩ => by
            have z2 : (env.sl.set i (C.dK ds'))[m]? = some c := z2
            by_cases hm : m = i
            · subst hm
              exact ⟨z1, _, q, rfl⟩
            · rw [List.getElem?_set_ne (Ne.symm hm)] at z2
              exact ⟨z1, c, z2, z3⟩
          exact I.dist j l b (old j o1) (old l o2)
      | _ => cases e
  | _ => cases e
/-- {} -/
def tDict0 : PTE := fun _ e Q => Q (.dK []) e
theorem ve_dict0 : VE Y (.Dict [] [] pos) tDict0 :=
  ⟨⟨fun _ => tDNewK, fun _ => pe_dnewK, fun Γ σ κ H env Q Q' hK I q k p hp => k _ κ _ (.dK []) env (Ext.upd_new I.gh hp) (I.upd_new hp) (new_dK I hp .nil) q⟩⟩
/-- d[k] -/
def tDG (to ti : PTE) : PTE := fun x e Q => to x e fun r e1 => hold r e1 fun r e1 => ti x e1 fun ri e2 => match kget r e2 with
  | some kvs => match rv ri e2 with
    | some kd => match keyD kd with
      | some k => match getK kvs k with
        | some d => Q (.d d) e2
        | none => False
      | none => False
    | none => False
  | none => False
theorem ve_dget (hu : Hu Y) (ho : VE Y o to) (hi : VE Y i ti) (hs : NoSl i := by exact fun _ _ => rfl) : VE Y (.Subscript o i pos) (tDG to ti) := by
  obtain ⟨ro, po, fo⟩ := ho.ex
  obtain ⟨ri, pi, fi⟩ := hi.ex
  refine ⟨⟨fun E => tDGet (ro E) (ri E), fun j => pe_dget (by have := hu j; omega) (po j) (pi j) hs, fun Γ σ κ H env Q Q' hK I q k => ?_⟩⟩
  refine fo Γ σ κ H env _ _ hK I q fun v κ1 H1 r1 e1 x1 I1 h1 q1 => ?_
  refine hold_ok I1 h1 q1 fun κ2 r2 x2 I2 h2 q2 => ?_
  refine fi Γ σ κ2 H1 e1 _ _ hK I2 q2 fun iv κ3 H3 r3 e3 x3 I3 h3 q3 => ?_
  cases e1' : kget r2 e3 with
  | none => rw [e1'] at q3; exact q3.elim
  | some kvs =>
    rw [e1'] at q3
    cases e2' : rv r3 e3 with
    | none => rw [e2'] at q3; exact q3.elim
    | some kd =>
      rw [e2'] at q3
      cases e3' : keyD kd with
      | none => simp only [e3'] at q3
      | some kk =>
        simp only [e3'] at q3
        obtain ⟨a, vs, rfl, g1, g2, _⟩ := dct_ok I3 (h2.ext x3) e1'
        have ek := keyD_rep (K := Γ.K) (cl := Γ.cls) (κ := κ3) (H := H3) (v := iv) (d := kd) (by
          have := rv_ok I3 h3 e2'
          cases kd with
          | lst _ => cases e3'
          | _ => exact this) e3'
        subst ek
        rcases PR.find kk g2 with ⟨z1, z2⟩ | ⟨d, v, z1, z2, z3⟩
        · rw [z1] at q3; exact q3.elim
        · rw [z1] at q3
          exact ⟨a, v, rfl, z2 ▸ DGet.k g1, k v κ3 H3 (.d d) e3 ((x1.trans x2).trans x3) I3 z3 q3⟩
/-- k in d -/
def tDI (neg : Bool) (ti to : PTE) : PTE := fun x e Q => ti x e fun ri e1 => hold ri e1 fun ri e1 => to x e1 fun r e2 => match kget r e2 with
  | some kvs => match rv ri e2 with
    | some kd => match keyD kd with
      | some k => Q (.d (.bl (if neg then !(getK kvs k).isSome else (getK kvs k).isSome))) e2
      | none => False
    | none => False
  | none => False
theorem kget_rel {r : R} {kvs : List (Key × D)} (h : RelR Γ κ H env σ v r) (e : kget r env = some kvs) : HeldR Γ κ H σ v r := by
  cases r with
  | nam i => exact h
  | _ => cases e
theorem din_ref {neg : Bool} {ro ri : XK → TE}
    (fi : ∀ (Γ : Gm) (σ : Sl) (κ : Ka) (H : Hp) (env : En) (Q : R → En → Prop) (Q' : VK), GK Y Γ → Rl Γ κ env σ H → ti Γ.x env Q → (∀ v κ' H' r env', Ext κ H κ' H' → Rl Γ κ' env' σ H' → RelR Γ κ' H' env' σ v r → Q r env' → Q' v H') → ri Γ.E σ H Q')
    (fo : ∀ (Γ : Gm) (σ : Sl) (κ : Ka) (H : Hp) (env : En) (Q : R → En → Prop) (Q' : VK), GK Y Γ → Rl Γ κ env σ H → to Γ.x env Q → (∀ v κ' H' r env', Ext κ H κ' H' → Rl Γ κ' env' σ H' → RelR Γ κ' H' env' σ v r → Q r env' → Q' v H') → ro Γ.E σ H Q')
    {Q : R → En → Prop} {Q' : VK} (hK : GK Y Γ) (I : Rl Γ κ env σ H) (q : tDI neg ti to Γ.x env Q)
    (k : ∀ v κ' H' r env', Ext κ H κ' H' → Rl Γ κ' env' σ H' → RelR Γ κ' H' env' σ v r → Q r env' → Q' v H') :
    ri Γ.E σ H fun y H1 => ro Γ.E σ H1 fun x H2 => ∃ a o, x = .ref a ∧ DGet H2 a y o ∧ Q' (.bl (if neg then !o.isSome else o.isSome)) H2 := by
  refine fi Γ σ κ H env _ _ hK I q fun iv κ1 H1 r1 e1 x1 I1 h1 q1 => ?_
  refine hold_ok I1 h1 q1 fun κ2 r2 x2 I2 h2 q2 => ?_
  refine fo Γ σ κ2 H1 e1 _ _ hK I2 q2 fun v κ3 H3 r3 e3 x3 I3 h3 q3 => ?_
  cases e1' : kget r3 e3 with
  | none => rw [e1'] at q3; exact q3.elim
  | some kvs =>
    rw [e1'] at q3
    cases e2' : rv r2 e3 with
    | none => rw [e2'] at q3; exact q3.elim
    | some kd =>
      rw [e2'] at q3
      cases e3' : keyD kd with
      | none => simp only [e3'] at q3
      | some kk =>
        simp only [e3'] at q3
        obtain ⟨a, vs, rfl, g1, g2, _⟩ := dct_ok I3 (kget_rel h3 e1') e1'
        have ek := keyD_rep (K := Γ.K) (cl := Γ.cls) (κ := κ3) (H := H3) (v := iv) (d := kd) (by
          have := rv_ok I3 (h2.ext x3).rel e2'
          cases kd with
          | lst _ => cases e3'
          | _ => exact this) e3'
        subst ek
        rcases PR.find kk g2 with ⟨z1, z2⟩ | ⟨d, v, z1, z2, z3⟩
        · rw [z1] at q3
          exact ⟨a, none, rfl, z2 ▸ DGet.k g1, k _ κ3 H3 (.d (.bl _)) e3 ((x1.trans x2).trans x3) I3 (.bl _) q3⟩
        · rw [z1] at q3
          exact ⟨a, some v, rfl, z2 ▸ DGet.k g1, k _ κ3 H3 (.d (.bl _)) e3 ((x1.trans x2).trans x3) I3 (.bl _) q3⟩
theorem ve_din (hu : Hu Y) (hi : VE Y i ti) (ho : VE Y o to) (hm : behindInMarks .In o = false := by rfl) : VE Y (.Compare i [.In] [o] pos) (tDI false ti to) := by
  obtain ⟨ro, po, fo⟩ := ho.ex
  obtain ⟨ri, pi, fi⟩ := hi.ex
  exact ⟨⟨fun E => tDIn (ri E) (ro E), fun j => pe_cmp (pc_din (by have := hu j; omega) (pi j) (po j)) hm, fun Γ σ κ H env Q Q' hK I q k => din_ref (neg := false) fi fo hK I q k⟩⟩
theorem ve_dnin (hu : Hu Y) (hi : VE Y i ti) (ho : VE Y o to) (hm : behindInMarks .NotIn o = false := by rfl) : VE Y (.Compare i [.NotIn] [o] pos) (tDI true ti to) := by
  obtain ⟨ro, po, fo⟩ := ho.ex
  obtain ⟨ri, pi, fi⟩ := hi.ex
  exact ⟨⟨fun E => tDNotIn (ri E) (ro E), fun j => pe_cmp (pc_dnotin (by have := hu j; omega) (pi j) (po j)) hm, fun Γ σ κ H env Q Q' hK I q k => din_ref (neg := true) fi fo hK I q k⟩⟩
theorem vt_of_pc {op : CmpOp} {t : PTE} {rd : XK → TE} {o i : Expr} (hm : behindInMarks op o = false) (p : ∀ j, PC (Y.X j) op i o (rd (Y.E j)))
    (f : ∀ (Γ : Gm) (σ : Sl) (κ : Ka) (H : Hp) (env : En) (Q : R → En → Prop) (Q' : VK), GK Y Γ → Rl Γ κ env σ H → t Γ.x env Q → (∀ v κ' H' r env', Ext κ H κ' H' → Rl Γ κ' env' σ H' → RelR Γ κ' H' env' σ v r → Q r env' → Q' v H') → rd Γ.E σ H Q') : VT Y (.Compare i [op] [o] pos) (tB t) := by
  refine ⟨⟨fun E => L2.tB (rd E), fun j => pt_cmp (p j) hm, fun Γ σ κ H env Q Q' hK I q k => ?_⟩⟩
  refine f Γ σ κ H env _ _ hK I q fun v κ1 H1 r1 e1 x1 I1 h1 q1 => ?_
  obtain ⟨c, rfl, q1⟩ := bl_of (P := fun _ => True) I1 h1 q1
  exact ⟨c, rfl, k c κ1 H1 e1 x1 I1 q1⟩
theorem vt_din (hu : Hu Y) (hi : VE Y i ti) (ho : VE Y o to) (hm : behindInMarks .In o = false := by rfl) : VT Y (.Compare i [.In] [o] pos) (tB (tDI false ti to)) := by
  obtain ⟨ro, po, fo⟩ := ho.ex
  obtain ⟨ri, pi, fi⟩ := hi.ex
  exact vt_of_pc (rd := fun E => tDIn (ri E) (ro E)) hm (fun j => pc_din (by have := hu j; omega) (pi j) (po j)) (fun Γ σ κ H env Q Q' hK I q k => din_ref (neg := false) fi fo hK I q k)
theorem vt_dnin (hu : Hu Y) (hi : VE Y i ti) (ho : VE Y o to) (hm : behindInMarks .NotIn o = false := by rfl) : VT Y (.Compare i [.NotIn] [o] pos) (tB (tDI true ti to)) := by
  obtain ⟨ro, po, fo⟩ := ho.ex
  obtain ⟨ri, pi, fi⟩ := hi.ex
  exact vt_of_pc (rd := fun E => tDNotIn (ri E) (ro E)) hm (fun j => pc_dnotin (by have := hu j; omega) (pi j) (po j)) (fun Γ σ κ H env Q Q' hK I q k => din_ref (neg := true) fi fo hK I q k)
/-- d[k] = v -/
def sDPt (te to ti : PTE) : PTS := fun x P e => te x e fun r0 e1 => fz r0 e1 fun dv e2 => to x e2 fun ro e3 => hold ro e3 fun ro e3 => ti x e3 fun ri e4 => match kget ro e4 with
  | some kvs => match rv ri e4 with
    | some kd => match keyD kd with
      | some k => kvs.length < sizeLine ∧ P.nx (kset ro e4 (setK kvs k dv))
      | none => False
    | none => False
  | none => False
theorem PR.lengthK : ∀ {ds : List (Key × D)} {vs : List (Key × V)}, PR K cl κ H vs ds → vs.length = ds.length
  | [], _, h => by cases h; rfl
  | d :: ds, _, h => by cases h with | cons h1 h2 => simp [PR.lengthK h2]
theorem vs_dput {tpos : Pos} (hu : Hu Y) (he : VE Y e te) (ho : VE Y o to) (hi : VE Y i ti)
    (hs : ∀ j, swapsWith e (some (.Subscript o i tpos)) pos.line (Y.X j).env = pure false := by intro _; rfl) : VS Y (.Assign [.Subscript o i tpos] e pos) (sDPt te to ti) := by
  obtain ⟨re, pe, fe⟩ := he.ex
  obtain ⟨ro, po, fo⟩ := ho.ex
  obtain ⟨ri, pi, fi⟩ := hi.ex
  refine ⟨⟨fun E => sDPut (ro E) (ri E) (re E), fun j => ps_dput (by have := hu j; omega) (po j) (pi j) (pe j) (hs j), fun Γ σ κ H env P P' hK I q l => ?_⟩⟩
  refine fe Γ σ κ H env _ _ hK I q fun v κ1 H1 r1 e1 x1 I1 h1 q1 => ?_
  refine fz_ok I1 h1 q1 fun κ2 dv e2 x2 I2 h2 q2 => ?_
  refine fo Γ σ κ2 H1 e2 _ _ hK I2 q2 fun ov κ3 H3 r3 e3 x3 I3 h3 q3 => ?_
  refine hold_ok I3 h3 q3 fun κ4 r4 x4 I4 h4 q4 => ?_
  refine fi Γ σ κ4 H3 e3 _ _ hK I4 q4 fun iv κ5 H5 r5 e5 x5 I5 h5 q5 => ?_
  have hv : Rep Γ.K Γ.cls κ5 H5 v dv := ((h2.mono x3).mono x4).mono x5
  have x15 := (((x1.trans x2).trans x3).trans x4).trans x5
  cases e1' : kget r4 e5 with
  | none => rw [e1'] at q5; exact q5.elim
  | some kvs =>
    rw [e1'] at q5
    cases e2' : rv r5 e5 with
    | none => rw [e2'] at q5; exact q5.elim
    | some kd =>
      rw [e2'] at q5
      cases e3' : keyD kd with
      | none => simp only [e3'] at q5
      | some kk =>
        simp only [e3'] at q5
        obtain ⟨a, vs, rfl, g1, g2, g3⟩ := dct_ok I5 (h4.ext x5) e1'
        have ek := keyD_rep (K := Γ.K) (cl := Γ.cls) (κ := κ5) (H := H5) (v := iv) (d := kd) (by
          have := rv_ok I5 h5 e2'
          cases kd with
          | lst _ => cases e3'
          | _ => exact this) e3'
        subst ek
        obtain ⟨x6, I6⟩ := g3 _ _ (PR.put hv kk g2)
        exact ⟨a, _, rfl, DPut.k g1 (by rw [PR.lengthK g2]; exact q5.1), l.1 σ κ5 _ _ (x15.trans x6) I6 q5.2⟩
end
end Pu
set_option maxRecDepth 100000
set_option maxHeartbeats 4000000
/-! x[::-1] of lists and tuples -/
namespace PuE
open PySem PySem.Spec PyProof.Rows L2 HT
section
variable {prog : Program} {w : World} {A : Around} {E : Value → Shared → Prop} {s : Shared}
theorem adjust_back (n : Nat) : Builtin.Slice.sliceAdjust none none (-1) (n : Int) = ((n : Int) - 1, -1) := rfl
theorem places_back (n : Nat) : Builtin.Slice.slicePlaces ((n : Int) - 1) (-1) (-1) = n := by
  unfold Builtin.Slice.slicePlaces
  have h1 : ¬ ((-1 : Int) > 0) := by omega
  simp only [h1, if_false]
  by_cases h : (n : Int) - 1 > -1
  · rw [if_pos h]
    have : ((n : Int) - 1 - -1 - 1) / (- -1) = (n : Int) - 1 := by
      rw [show (- -1 : Int) = 1 by decide, Int.ediv_one]; omega
    rw [this]; omega
  · rw [if_neg h]; omega
theorem applied_back {sl : Addr} {n : Nat} {t : Tok} {vs : Value} {Q : Int × Int × Nat → Shared → Prop} (hs : s.heap.IsSliceOf sl .none .none vs) (ps : IsPart vs (some (-1)))
    (h : Q ((n : Int) - 1, -1, n) s) : wpAny (model prog w) A (Builtin.Slice.sliceApplied (.ref sl) (pure (n : Int))) Q E s := by
  obtain ⟨os, hos, hcs, hds⟩ := id hs
  unfold Builtin.Slice.sliceApplied Builtin.Slice.sliceFields
  refine wpAny_bind (wpAny_bind (wpAny_field hos hds (x := .none) rfl (wpAny_bind (wpAny_field hos hds (x := .none) rfl (wpAny_bind (wpAny_field hos hds (x := vs) rfl (wpAny_pure ?_)))))))
  refine wpAny_bind (slicePart_ ps ?_)
  show wpAny _ _ (if ((-1 : Int) == 0) = true then _ else _) _ _ s
  rw [if_neg (by decide)]
  refine wpAny_bind (slicePart_none (wpAny_bind (slicePart_none (wpAny_bind (wpAny_pure ?_)))))
  show wpAny _ _ (match Builtin.Slice.sliceAdjust none none (-1) (n : Int) with | (lo, hi) => pure (lo, (-1 : Int), Builtin.Slice.slicePlaces lo hi (-1))) _ _ s
  rw [adjust_back n]
  show wpAny _ _ (pure ((n : Int) - 1, (-1 : Int), Builtin.Slice.slicePlaces ((n : Int) - 1) (-1) (-1))) _ _ s
  rw [places_back]
  exact wpAny_pure h
theorem fm_congr {α β : Type} {f g : α → Option β} : ∀ {l : List α}, (∀ m ∈ l, f m = g m) → l.filterMap f = l.filterMap g
  | [], _ => rfl
  | a :: l, h => by rw [List.filterMap_cons, List.filterMap_cons, h a (by simp), fm_congr fun m hm => h m (List.mem_cons_of_mem _ hm)]
theorem pick_back (xs : Array Value) : ((List.range xs.size).filterMap fun (m : Nat) => xs[((xs.size : Int) - 1 + (m : Int) * (-1)).toNat]?).toArray = xs.toList.reverse.toArray := by
  have e : (List.range xs.size).filterMap (fun (m : Nat) => xs[((xs.size : Int) - 1 + (m : Int) * (-1)).toNat]?) = ((List.range xs.size).map fun k => xs.size - 1 - k).filterMap (xs[·]?) := by
    rw [List.filterMap_map]
    exact fm_congr fun m hm => by
      have hm := List.mem_range.mp hm
      have : ((xs.size : Int) - 1 + (m : Int) * (-1)).toNat = xs.size - 1 - m := by omega
      rw [this]
      rfl
  rw [e, PySem.W.krv_range, List.filterMap_reverse, PySem.W.krv_all]
theorem getItem_tup_back {t sl : Addr} {tk : Tok} {items : Array Value} {vs : Value} {Q : Value → Shared → Prop} (ht : IsTup s.heap t items) (hs : s.heap.IsSliceOf sl .none .none vs) (ps : IsPart vs (some (-1)))
    (h : Q (.ref s.heap.objs.size) { s with heap := s.heap.push { cls := .type "tuple", data := .seq items.toList.reverse.toArray } })
    (hsz : items.size ≤ sizeLine) : wpAny (model prog w) A (getItem (.ref t) (.ref sl)) Q E s := by
  have htake : sizeOk (.seq items.toList.reverse.toArray) := by
    show items.toList.reverse.toArray.size ≤ sizeLine
    rw [List.size_toArray, List.length_reverse, Array.length_toList]
    exact hsz
  obtain ⟨os, hos, hcs, hds⟩ := id hs
  have hTs : s.TypeIs (.ref sl) "slice" := ⟨os, hos, hcs⟩
  unfold getItem
  try with_reducible refine wpAny_holding ?_
  first | refine wpAny_bind (wpAny_pure ?_) | skip
  refine wpAny_bind (wpAny_sequenceKey ht.typeIs (by decide) ?_)
  refine wpAny_bind (wpAny_callSpecial?_slot (name := Str.ofString "__getitem__") ht.typeIs PyProof.Rows.slot_tuple_getitem
    (wpAny_call_entry PyProof.Rows.slot_tuple_getitem ht.typeIs entry_tuple_getitem ?_ (args_tuple_getitem _ _)))
  show wpAny _ _ (Builtin.Tuple.tupleItemsOf (.ref t) >>= _) _ _ s
  refine wpAny_bind (tupleItemsOf_ ht ?_)
  refine wpAny_bind (wpAny_typeOf hTs ?_)
  rw [if_pos (by decide)]
  refine wpAny_bind (applied_back (t := tk) hs ps ?_)
  have hno : ¬ ((((items.size : Int) - 1) == 0 && (-1 : Int) == 1 && items.size == items.size) = true) := by
    intro q
    rw [Bool.and_eq_true, Bool.and_eq_true] at q
    exact absurd (eq_of_beq q.1.2) (by decide)
  show wpAny _ _ (if ((((items.size : Int) - 1) == 0 && (-1 : Int) == 1 && items.size == items.size) = true) then _ else _) _ _ s
  rw [if_neg hno, pick_back]
  first
    | exact wpAny_bind (m := Builtin.Tuple.tupleExact _) (wpAny_newObj_type (wpAny_pure ⟨_, rfl, wpAny_pure h⟩) htake)
    | exact wpAny_bind (m := Builtin.Tuple.tupleExact _) (wpAny_newObj_type (wpAny_bind (wpAny_pure (wpAny_pure ⟨_, rfl, wpAny_pure h⟩))) htake)
    | exact wpAny_bind (wpAny_bind (m := Builtin.Tuple.tupleExact _) (wpAny_newObj_type (wpAny_pure (wpAny_pure ⟨_, rfl, wpAny_pure h⟩)) htake))
    | exact wpAny_bind (wpAny_bind (m := Builtin.Tuple.tupleExact _) (wpAny_newObj_type (wpAny_pure ⟨_, rfl, wpAny_pure h⟩) htake))
end
/-- x[::-1], lists and tuples -/
def tBack (K : PySem.W.Frag) (te : TE) : TE := fun σ H Q => te σ H fun x H1 => (∃ a xs, x = .ref a ∧ SqL K H1 a xs ∧ ∀ p, H1 p = none → Q (.ref p) (upd H1 p (.lst xs.reverse))) ∨
  ∃ a xs, x = .ref a ∧ SqT K H1 a xs ∧ ∀ p, H1 p = none → Q (.ref p) (upd H1 p (.tup xs.reverse))
section
variable {X : Cx}
theorem pe_back {e : Expr} {te : TE} {k : Nat} {p1 p2 p3 pos : Pos} (he : PE X e te) : PE X (.Subscript e (.Slice none none (some (.UnaryOp .USub (.Constant (.int 1) k p1) p2)) p3) pos) (tBack X.K te) := by
  refine ⟨fun pins s σ H Q I h => ?_⟩
  refine Subscript_ (thn (he.run pins s σ H _ I h) fun v s1 ⟨x, H1, I1, r1, q1⟩ => ?_)
  have hst : PO X (some (.UnaryOp .USub (.Constant (.int 1) k p1) p2)) (tPart (tUn (rU fun i => .int (-i)) (tC (.int 1)))) := po_some (pe_un un_neg pe_int)
  refine wpAny_Slice (thn (po_none.run pins s1 σ H1 (fun o H2 => o = none ∧ H2 = H1) I1 ⟨rfl, rfl⟩) fun vl s2 ⟨l, H2, I2, pl, el, e2⟩ => ?_)
  subst el e2
  refine thn (po_none.run pins s2 σ H2 (fun o H3 => o = none ∧ H3 = H2) I2 ⟨rfl, rfl⟩) fun vu s3 ⟨u, H3, I3, pu, eu, e3⟩ => ?_
  subst eu e3
  refine thn (hst.run pins s3 σ H3 (fun o H4 => o = some (-1) ∧ H4 = H3) I3 ⟨1, rfl, -1, rfl, rfl, rfl⟩) fun vs s4 ⟨o, H4, I4, ps, eo, e4⟩ => ?_
  subst eo e4
  have I5 : Inv X pins σ H4 { s4 with heap := s4.heap.push { cls := .type "slice", data := .fields #[vl, vu, vs] } } := I4.kept (t' := s4.toks) fun b ob q => Heap.get?_push_of_some _ q
  rcases q1 with ⟨a, xs, ex, hx, q⟩ | ⟨a, xs, ex, hx, q⟩
  · subst ex
    cases r1
    obtain ⟨its, r, ht, hz⟩ := I5.list hx
    have hlen := r.length
    show wpAny (model X.prog X.w) X.A (subscriptTail e (.Slice none none (some (.UnaryOp .USub (.Constant (.int 1) k p1) p2)) p3) (.ref a) (.ref s4.heap.objs.size)) (EP X pins σ Q) X.xe { s4 with heap := s4.heap.push { cls := .type "slice", data := .fields #[vl, vu, vs] } }
    refine tail_any (ops := [.ref a, .ref s4.heap.objs.size]) ht.isList.typeIs (PySem.slot_list_getitem.lookup) ?_ (by with_unfolding_all rfl)
    refine wpAny_getItem_list_slice ht.isList (Heap.IsSliceOf.new _ vl vu vs) pl pu ps (by decide) ?_ (by rw [List.size_toArray]; omega)
    rw [PySem.W.krv_pick]
    refine ⟨.ref _, _, I5.laid (t' := s4.toks) (o := .lst xs.reverse) (fun b ob q => Heap.get?_push_of_some _ q) (Nat.le_refl _) ?_, rfl, q _ (I5.hok.fresh (Nat.le_refl _))⟩
    exact ⟨by rw [List.length_reverse]; exact hz, _, 0, r.reverse, Heap.get?_push_size _ rfl⟩
  · subst ex
    cases r1
    cases pl
    cases pu
    obtain ⟨its, r, ht, hz⟩ := I5.tuple hx
    have hlen := r.length
    show wpAny (model X.prog X.w) X.A (subscriptTail e (.Slice none none (some (.UnaryOp .USub (.Constant (.int 1) k p1) p2)) p3) (.ref a) (.ref s4.heap.objs.size)) (EP X pins σ Q) X.xe { s4 with heap := s4.heap.push { cls := .type "slice", data := .fields #[.none, .none, vs] } }
    refine tail_any (ops := [.ref a, .ref s4.heap.objs.size]) ht.typeIs (PyProof.Rows.slot_tuple_getitem.lookup) ?_ (by with_unfolding_all rfl)
    refine getItem_tup_back (tk := 0) ht (Heap.IsSliceOf.new _ .none .none vs) ps ?_ (by rw [List.size_toArray]; omega)
    refine ⟨.ref _, _, I5.laid (t' := s4.toks) (o := .tup xs.reverse) (fun b ob q => Heap.get?_push_of_some _ q) (Nat.le_refl _) ?_, rfl, q _ (I5.hok.fresh (Nat.le_refl _))⟩
    exact ⟨by rw [List.length_reverse]; exact hz, _, r.reverse, IsTup.new _ _⟩
end
end PuE
namespace Pu
open PySem L2
section
variable {Γ Γ' : Gm} {κ κ' : Ka} {H H' : Hp} {env env' : En} {σ : Sl} {v : V} {st : Sto} {Y : Fam} {a b e o : Expr} {es : List Expr} {ta tb te to ti : PTE} {pos : Pos}
def pBack (d : D) (Q : R → Prop) : Prop := match d with
  | .lst ds => Q (.own ds.reverse)
  | .tup ds => Q (.d (.tup ds.reverse))
  | _ => False
theorem ve_back {k : Nat} {p1 p2 p3 : Pos} (he : VE Y e te) : VE Y (.Subscript e (.Slice none none (some (.UnaryOp .USub (.Constant (.int 1) k p1) p2)) p3) pos) (t1 te pBack) := by
  obtain ⟨ra, pa, fa⟩ := he.ex
  refine ⟨⟨fun E => PuE.tBack Y.K (ra E), fun i => by have := PuE.pe_back (k := k) (p1 := p1) (p2 := p2) (p3 := p3) (pos := pos) (pa i); rw [Y.hK i] at this; exact this, fun Γ σ κ H env Q Q' hK I q k => ?_⟩⟩
  refine fa Γ σ κ H env _ _ hK I q fun v κ1 H1 r1 e1 x1 I1 h1 q1 => ?_
  rw [← hK.k]
  cases e1' : rv r1 e1 with
  | none => rw [e1'] at q1; exact False.elim q1
  | some d =>
    rw [e1'] at q1
    have rt := rv_ok I1 h1 e1'
    cases d with
    | lst ds =>
      obtain ⟨a, vs, rfl, g1, g2, g3⟩ := rt
      refine .inl ⟨a, vs, rfl, SqL.of g1, fun p hp => ?_⟩
      exact k _ κ1 _ (.own ds.reverse) e1 (x1.trans (Ext.upd_new I1.gh hp)) (I1.upd_new hp) (new_lst I1 hp (by rw [List.length_reverse]; exact g2) g3.reverse) q1
    | tup ds =>
      obtain ⟨a, vs, rfl, g1, g2, g3⟩ := Rep.sqT rt
      refine .inr ⟨a, vs, rfl, g1, fun p hp => ?_⟩
      obtain ⟨x2, I2, r2⟩ := new_tup I1 hp (by rw [List.length_reverse]; exact g2) g3.reverse
      exact k _ _ _ (.d (.tup ds.reverse)) e1 (x1.trans x2) I2 r2 q1
    | _ => exact False.elim q1
/-- a statement that is never reached -/
def sNever : PTS := fun _ _ _ => False
theorem vs_never {s : Stmt} : VS Y s sNever := ⟨⟨fun _ _ _ _ => False, fun _ => ⟨fun _ _ _ _ _ _ h => h.elim⟩, fun _ _ _ _ _ _ _ _ _ q _ => q⟩⟩
end
end Pu
set_option maxRecDepth 100000
set_option maxHeartbeats 4000000
/-! x[i], y[j] = e -/
namespace Pu
open PySem L2
section
variable {Γ Γ' : Gm} {κ κ' : Ka} {H H' : Hp} {env env' : En} {σ : Sl} {v : V} {st : Sto} {Y : Fam} {a b e o i o2 i2 : Expr} {es : List Expr} {ta tb te to ti to2 ti2 : PTE} {pos : Pos}
def subA (to ti : PTE) (dv : D) (x : PX) (e : En) (Q : En → Prop) : Prop := to x e fun ro e3 => hold ro e3 fun ro e3 => ti x e3 fun ri e4 => match rv ri e4 with
  | some (.int i) => setAt ro dv i e4 Q
  | _ => False
theorem sub_ref {ro ri : XK → TE} {dv : D} {Q : En → Prop} {Q' : Sl → Hp → Prop}
    (fo : ∀ (Γ : Gm) (σ : Sl) (κ : Ka) (H : Hp) (env : En) (Q : R → En → Prop) (Q' : VK), GK Y Γ → Rl Γ κ env σ H → to Γ.x env Q → (∀ v κ' H' r env', Ext κ H κ' H' → Rl Γ κ' env' σ H' → RelR Γ κ' H' env' σ v r → Q r env' → Q' v H') → ro Γ.E σ H Q')
    (fi : ∀ (Γ : Gm) (σ : Sl) (κ : Ka) (H : Hp) (env : En) (Q : R → En → Prop) (Q' : VK), GK Y Γ → Rl Γ κ env σ H → ti Γ.x env Q → (∀ v κ' H' r env', Ext κ H κ' H' → Rl Γ κ' env' σ H' → RelR Γ κ' H' env' σ v r → Q r env' → Q' v H') → ri Γ.E σ H Q')
    (hK : GK Y Γ) (I : Rl Γ κ env σ H) (hv0 : Rep Γ.K Γ.cls κ H v dv) (q : subA to ti dv Γ.x env Q) (k : ∀ κ' H' e', Ext κ H κ' H' → Rl Γ κ' e' σ H' → Q e' → Q' σ H') : gSub (ro Γ.E) (ri Γ.E) rSetL v σ H Q' := by
  refine fo Γ σ κ H env _ _ hK I q fun ov κ3 H3 r3 e3 x3 I3 h3 q3 => ?_
  refine hold_ok I3 h3 q3 fun κ4 r4 x4 I4 h4 q4 => ?_
  refine fi Γ σ κ4 H3 e3 _ _ hK I4 q4 fun iv κ5 H5 r5 e5 x5 I5 h5 q5 => ?_
  have hv : Rep Γ.K Γ.cls κ5 H5 v dv := ((hv0.mono x3).mono x4).mono x5
  have hr := h4.ext x5
  have x15 := (x3.trans x4).trans x5
  cases e' : rv r5 e5 with
  | none => rw [e'] at q5; exact q5.elim
  | some d =>
    rw [e'] at q5
    have rt := rv_ok I5 h5 e'
    cases d with
    | int i =>
      cases rt
      have gen : (match mget r4 e5 with
          | some ds => match ixN ds.length i with
            | some j => Q (mset r4 e5 (ds.set j dv))
            | none => False
          | none => False) → rSetL ov (.int i) v H5 fun H6 => Q' σ H6 := fun q => by
        cases em : mget r4 e5 with
        | none => rw [em] at q; exact q.elim
        | some ds =>
          rw [em] at q
          simp only at q
          cases en : ixN ds.length i with
          | none => rw [en] at q; exact q.elim
          | some j =>
            rw [en] at q
            obtain ⟨a, vs, rfl, g1, g2, g3, g4⟩ := mut_ok I5 hr em
            obtain ⟨x6, I6⟩ := g4 (vs.set j v) (ds.set j dv) (by rw [List.length_set]; exact g2) (g3.set j hv)
            exact ⟨a, vs, i, j, rfl, rfl, g1, by rw [g3.length]; exact en, k κ5 _ _ (x15.trans x6) I6 q⟩
      cases r4 with
      | d z =>
        cases z with
        | box =>
          cases hr with
          | @box a hk =>
            obtain ⟨m, n, hx⟩ := I5.gh.box a hk
            obtain ⟨hi, q5⟩ := q5
            cases dv with
            | int y =>
              cases hv
              have fin : ∀ m' n' : Int, Q' σ (upd H5 a (.lst [.int m', .int n'])) := fun m' n' => by
                have x6 : Ext κ5 H5 κ5 (upd H5 a (.lst [.int m', .int n'])) := ⟨fun _ _ e => e, fun b e => upd_ne fun z => by rw [z, hk] at e; cases e⟩
                refine k κ5 _ e5 (x15.trans x6) (I5.step (st' := e5.st) x6 (fun j b hb => ?_) (I5.gh.upd_box hk)) q5
                obtain ⟨c, _, hc⟩ := I5.ownS hb
                exact ⟨hc.facts.1, upd_ne fun z => by have := hc.facts.1; rw [z, hk] at this; cases this⟩
              rcases hi with rfl | rfl
              · exact ⟨a, _, 0, 0, rfl, rfl, hx, rfl, fin y n⟩
              · exact ⟨a, _, 1, 1, rfl, rfl, hx, rfl, fin m y⟩
            | _ => exact q5.elim
        | _ => exact gen q5
      | nam _ => exact gen q5
      | own _ => exact gen q5
      | dK _ => exact gen q5
      | dT _ => exact gen q5
    | _ => exact q5.elim
def sSwIx (te to ti to2 ti2 : PTE) : PTS := fun x P e => te x e fun r0 e1 => fz r0 e1 fun dv e2 => match dv with
  | .tup [d1, d2] => subA to ti d1 x e2 fun e3 => subA to2 ti2 d2 x e3 P.nx
  | _ => False
theorem vs_swIx {p1 p2 tpos : Pos} {kk : Nat} (he : VE Y e te) (ho : VE Y o to) (hi : VE Y i ti) (ho2 : VE Y o2 to2) (hi2 : VE Y i2 ti2) (hc : ∀ i, (Y.X i).calm = true := by intro _; rfl)
    (ha : ∀ (X : Cx) v, assign (.Subscript o i p1) X.env v = (do
      let ov ← holding [v] (eval o X.env)
      let iv ← holding [v, ov] (eval i X.env)
      standAt p1
      holding [v, ov, iv] (setItem ov iv v)
      release [v, ov, iv] []) := by intro _ _; rfl)
    (ha2 : ∀ (X : Cx) v, assign (.Subscript o2 i2 p2) X.env v = (do
      let ov ← holding [v] (eval o2 X.env)
      let iv ← holding [v, ov] (eval i2 X.env)
      standAt p2
      holding [v, ov, iv] (setItem ov iv v)
      release [v, ov, iv] []) := by intro _ _; rfl)
    (hs : ∀ i', swapsWithSole [.Tuple [.Subscript o i p1, .Subscript o2 i2 p2] kk tpos] e pos.line (Y.X i').env = pure false := by intro _; rfl) (hw : ∀ i', swappedStores [.Tuple [.Subscript o i p1, .Subscript o2 i2 p2] kk tpos] e (Y.X i').env = pure none := by intro _; rfl)
    (h1 : ∀ X : Cx, (assignEach [.Tuple [.Subscript o i p1, .Subscript o2 i2 p2] kk tpos] X.env).map (·.2) = [assign (.Tuple [.Subscript o i p1, .Subscript o2 i2 p2] kk tpos) X.env] := by intro _; rfl)
    (g1 : ∀ X : Cx, (assignEach [.Subscript o i p1, .Subscript o2 i2 p2] X.env).map (·.2) = assign (.Subscript o i p1) X.env :: (assignEach [.Subscript o2 i2 p2] X.env).map (·.2) := by intro _; rfl)
    (g2 : ∀ X : Cx, (assignEach [.Subscript o2 i2 p2] X.env).map (·.2) = assign (.Subscript o2 i2 p2) X.env :: (assignEach [] X.env).map (·.2) := by intro _; rfl)
    (hn : ∀ X : Cx, (assignEach [.Subscript o i p1, .Subscript o2 i2 p2] X.env).length = 2 := by intro _; rfl) (hst : ∀ X : Cx, (assignEach [.Subscript o i p1, .Subscript o2 i2 p2] X.env).findIdx? (·.1) = none := by intro _; rfl) :
    VS Y (.Assign [.Tuple [.Subscript o i p1, .Subscript o2 i2 p2] kk tpos] e pos) (sSwIx te to ti to2 ti2) := by
  obtain ⟨re, pe, fe⟩ := he.ex
  obtain ⟨ro, po, fo⟩ := ho.ex
  obtain ⟨ri, pi, fi⟩ := hi.ex
  obtain ⟨ro2, po2, fo2⟩ := ho2.ex
  obtain ⟨ri2, pi2, fi2⟩ := hi2.ex
  refine ⟨⟨fun E => tAsg (re E) (L2.gTup Y.K 2 (L2.gCons (gSub (ro E) (ri E) rSetL) (L2.gCons (gSub (ro2 E) (ri2 E) rSetL) L2.gNil))), fun j => ?_, fun Γ σ κ H env P P' hK I q l => ?_⟩⟩
  · have z := pg_tup (pos := tpos) (k := kk) (hc j) (pgs_cons (pg_sub (po j) (pi j) set_list (ha _)) (pgs_cons (pg_sub (po2 j) (pi2 j) set_list (ha2 _)) pgs_nil (g2 _)) (g1 _)) (hn _) (hst _)
    rw [Y.hK j] at z
    exact ps_asg (pe j) z (hs j) (hw j) (h1 _)
  · refine fe Γ σ κ H env _ _ hK I q fun v κ1 H1 r1 e1 x1 I1 h1 q1 => ?_
    refine fz_ok I1 h1 q1 fun κ2 dv e2 x2 I2 h2 q2 => ?_
    split at q2
    · rename_i d1 d2
      obtain ⟨a, vs, rfl, g1, g2, g3⟩ := h2.sqT
      cases g3 with
      | @cons v1 _ _ _ w1 g3 =>
        cases g3 with
        | @cons v2 _ _ _ w2 g3 =>
          cases g3
          refine ⟨a, _, rfl, by rw [← hK.k]; exact g1, rfl, v1, _, rfl, sub_ref fo fi hK I2 w1 q2 fun κ3 H3 e3 x3 I3 q3 => ?_⟩
          refine ⟨v2, _, rfl, sub_ref fo2 fi2 hK I3 (w2.mono x3) q3 fun κ4 H4 e4 x4 I4 q4 => ?_⟩
          exact ⟨rfl, l.1 σ κ4 H4 e4 (((x1.trans x2).trans x3).trans x4) I4 q4⟩
    · exact q2.elim
end
end Pu
set_option maxRecDepth 100000
set_option maxHeartbeats 4000000
/-! exceptions at the hand layer: a caught exception is tracked as an object of its own -/
namespace Pu
open PySem L2 PySem.Spec PyProof.Rows
section
variable {P : Program} {w : World} {H : Hp} {h : Heap} {a C : Addr} {d : Option Addr} {oe : Obj} {vs : Array Value}
theorem exT_ok (e : h.get? a = some oe) (z : Zc (.ref C) d oe) (dd : oe.data = .fields vs) : ObjOk P w H h a (exT a C d) :=
  ⟨⟨oe, vs, e, z, dd⟩, ⟨oe, e⟩, fun _ _ ⟨o, v, q, r⟩ k => ⟨o, v, k o q, r⟩⟩
theorem exT_at (hok : HOk P w H h) (he : H a = some (exT a C d)) : ∃ (oe : Obj) (vs : Array Value), h.get? a = some oe ∧ Zc (.ref C) d oe ∧ oe.data = .fields vs := by
  have x : ObjOk P w H h a (.ext fun h => ∃ (oe : Obj) (vs : Array Value), h.get? a = some oe ∧ Zc (.ref C) d oe ∧ oe.data = .fields vs) := hok a _ he
  exact x.1
end
section
variable {X : Cx} {pins : List (Addr × Obj)} {σ : L2.St} {H : Hp} {s : Shared} {a C : Addr} {d : Option Addr} {oe : Obj} {vs : Array Value}
theorem Inv.track (I : Inv X pins σ H s) (ha : s.heap.get? a = some oe) (hz : Zc (.ref C) d oe) (hd : oe.data = .fields vs) (na : H a = none) (n0 : X.s_0.heap.get? a = none) (nL : a ≠ X.env.locals)
    (np : ∀ p ∈ X.pn ++ pins, p.1 ≠ a) : Inv X pins σ (upd H a (exT a C d)) s := by
  have ne0 : ∀ b o, X.s_0.heap.get? b = some o → b ≠ a := fun b o e z => by rw [z, n0] at e; cases e
  refine ⟨I.ok, I.os, I.bare, ⟨I.base.keep, I.base.slot, fun b o e n hx => ?_, I.base.there, fun b xs e => ?_, fun b o u e => ?_, fun b ps e => ?_⟩, I.loc, I.cell, ?_, fun x c e => ?_, fun p hp => ?_, fun b u e => ?_, I.len⟩
  · rw [upd_ne (ne0 b o e)]; exact I.base.free b o e n hx
  · have z := I.base.tups b xs e
    rw [upd_ne (ne_of_none z na)]; exact z
  · have z := I.base.frzs b o u e
    rw [upd_ne (ne_of_none z na)]; exact z
  · obtain ⟨m, z⟩ := I.base.tbls b ps e
    exact ⟨m, by rw [upd_ne (ne_of_none z na)]; exact z⟩
  · rw [upd_ne (Ne.symm nL)]; exact I.free
  · have hc : c ≠ a := fun z => by
      obtain ⟨v, o, ho, hdc⟩ := I.cell x c e
      rw [z, ha] at ho
      cases ho
      rw [hd] at hdc
      cases hdc
    rw [upd_ne hc]; exact I.freeC x c e
  · obtain ⟨e, n, ne, nf, dd⟩ := I.pin p hp
    exact ⟨e, by rw [upd_ne (np p hp)]; exact n, ne, nf, dd⟩
  · by_cases hb : b = a
    · subst hb
      rw [upd_same] at e
      cases e
      exact exT_ok ha hz hd
    · rw [upd_ne hb] at e
      exact (I.hok b u e).stay (fun c v _ q => q) (fun c q => by rw [upd_ne (ne_of_none q na)]; exact q) fun c xs q => by rw [upd_ne (ne_of_none q na)]; exact q
theorem Inv.suiteX (I : Inv X pins σ H s) (a : Addr) : Inv (X.suite a (X.pn ++ pins)) [] σ H s :=
  ⟨I.ok.suite _ _, I.os, I.bare, I.base, I.loc, I.cell, I.free, I.freeC, fun p hp => I.pin p (by rw [List.append_nil] at hp; exact hp), I.hok, I.len⟩
theorem Inv.unsuiteX {pn' : List (Addr × Obj)} (I : Inv (X.suite a (X.pn ++ pins)) pn' σ H s) (ok : X.Ok) : Inv X pins σ H s :=
  ⟨ok, I.os, I.bare, I.base, I.loc, I.cell, I.free, I.freeC, fun p hp => I.pin p (List.mem_append_left _ hp), I.hok, I.len⟩
end
/-- what the clause wishes of an exception of the body: it stands tracked -/
def wTry (K : PySem.W.Frag) (c : Value) (i : Nat) (ts : TS) (D : Ends) : WX := fun cls d σ H =>
  PySem.W.exmOne K cls c = some true ∧ ∃ C, cls = .ref C ∧ ∀ a, H a = none →
    ts { nx := fun σ' H' => D.nx (σ'.set i none) H', rt := D.rt, bk := fun σ' H' => D.bk (σ'.set i none) H', ct := fun σ' H' => D.ct (σ'.set i none) H' } (σ.set i (some (.ref a))) (upd H a (exT a C d))
section
variable {X : Cx} {x n : Str} {c : Value} {i : Nat} {body suite : List Stmt} {b₀ : Stmt} {np pos pos' : Pos} {tb : WX → TS} {ts : TS}
theorem ps_try_x (hs : X.stack = X.env :: X.outer) (hf : X.env.frame = some X.env.locals) (hex : X.ex = []) (hN : X.N.Nodup) (hi : X.N[i]? = some n) (hln : X.env.kindOf n = some .local) (hc : Names X x c)
    (hb : ∀ (W : WX) (pn : List (Addr × Obj)) (xe : Value → Shared → Prop), Takes (X.tr pn xe) W → PassesOwn (model X.prog X.w) X.A X.env xe → PSs (X.tr pn xe) body (tb W))
    (hsu : ∀ (a : Addr) (pn : List (Addr × Obj)), PSs (X.suite a pn) (b₀ :: suite) ts) :
    PS X (.Try body [.ExceptHandler (some (.Name x np)) (some n) (b₀ :: suite) pos'] [] [] pos) (fun D σ H => tb (wTry X.K c i ts D) D σ H) := by
  refine ⟨fun pins s σ H D I h => ?_⟩
  have ok := I.ok
  have hfr : X.A.frames = some (X.env :: X.outer) := by rw [ok.frames, hs]
  have hloc : Loc X.env.scope n := .inl hln
  refine wpAny_Try_except ?_
  refine wpAny_mono ((hb (wTry X.K c i ts D) (X.pn ++ pins) (fun e s₁ => wpAny (model X.prog X.w) X.A (noteFrame e X.env) (fun _ s₂ => wpAny (model X.prog X.w) X.A (setFlight e none) (fun _ s₃ =>
    wpAny (model X.prog X.w) X.A (handleBy e X.env [.ExceptHandler (some (.Name x np)) (some n) (b₀ :: suite) pos']) (SP X pins D) X.xe s₃) X.xe s₂) X.xe s₁) (fun u s' xx => ?_) PassesOwn.looking).run [] s σ H D (I.toTry _) h) (fun f s1 hsp => ?_) (fun e s1 he => he)
  · -- the catch
    obtain ⟨a, B, sI, pins', σ', H', cls, d, rfl, J', nb, up, sky, na, os, ag, hb1, C, rfl, hyes⟩ := xx
    have J : Inv X pins σ' H' sI := J'.ofTry ok
    have sky' : Sky B (X.env :: X.outer) a (Zc (.ref C) d) X.env.locals s'.heap := by rw [← hs]; exact sky
    show wpAny (model X.prog X.w) X.A (noteFrame (.ref a) X.env) _ _ _
    refine Sky.land Zc.steady hfr hf sky' fun h3 fl3 up3 => ?_
    have J3 : Inv X pins σ' H' { s' with heap := h3 } := J.landed nb fl3.1 (up.trans up3) os ag
    obtain ⟨oe3, vs3, he3, hz3, hd3⟩ := fl3.there
    have notFr : ∀ {h : Heap} {o : Obj} {vs : Array Value}, h.FunFrames B (X.env :: X.outer) → h.get? a = some o → o.data = .fields vs → a ∉ frs (X.env :: X.outer) := fun {h o vs} ff e dd hm => by
      obtain ⟨_, o', e', hnf⟩ := ff.mem hm
      rw [e] at e'; cases e'
      exact hnf _ dd
    have nfr := notFr fl3.2.2.1 he3 hd3
    have nfr' : a ∉ frs X.stack := by rw [hs]; exact nfr
    have nL : a ≠ X.env.locals := fun z => nfr (List.mem_filterMap.mpr ⟨X.env, List.mem_cons_self, by rw [hf, z]⟩)
    have nI : ∀ o, sI.heap.get? a ≠ some o := fun o e => by
      have z := nb a o e nfr'
      rw [fl3.2.1] at z
      cases z
    have n0 : X.s_0.heap.get? a = none := by
      cases e : X.s_0.heap.get? a with
      | none => rfl
      | some o =>
        obtain ⟨o', z⟩ := J.base.there a o e (by rw [hex]; exact fun z => nomatch z)
        exact absurd z (nI o')
    have npn : ∀ p ∈ X.pn ++ pins, p.1 ≠ a := fun p hp z => nI p.2 (by rw [← z]; exact (J.pin p hp).1)
    have S3 := Pu.Inv.suiteX J3 a
    refine wpAny_handleBy_cons (codeAny_handlers_test ?_) (by intro q; cases q)
    have LT : PySem.W.Looks (model X.prog X.w) h3 (typeOf (.ref a)) (.ref C) := fun A Q E s k q => wpAny_typeOf_ref (k _ _ he3) (by rw [hz3.1]; exact q)
    have LM := PySem.W.exm_one (M := model X.prog X.w) (J3.kIn) LT hb1
    have test : ∀ {Q : Value → Shared → Prop} {E : Value → Shared → Prop}, Q c { s' with heap := h3 } → wpAny (model X.prog X.w) (X.A.mark (some (.ref a))) (eval (.Name x np) X.env) Q E { s' with heap := h3 } := fun {Q E} q => by
      obtain ⟨hg, hdbg, hm | ⟨hm, hv, hnn⟩⟩ := hc
      · exact ld_glob (X := X.suite a (X.pn ++ pins)) S3 hg hm q hdbg
      · exact ld_blt (X := X.suite a (X.pn ++ pins)) S3 hg hm hv q hnn hdbg
    refine test (LM.here ?_)
    refine codeAny_handlers_suite_as ?_
    refine HandSPX.lands_againZ fl3 fun h4 fl4 up4 => ?_
    have J4 : Inv X pins σ' H' { s' with heap := h4 } := J.landed nb fl4.1 ((up.trans up3).trans up4) os ag
    obtain ⟨oe4, vs4, he4, hz4, hd4⟩ := fl4.there
    have J5 := Pu.Inv.track (C := C) (d := d) J4 he4 hz4 hd4 na n0 nL npn
    have S4 := Pu.Inv.suiteX J5 a
    refine store_ok (X := X.suite a (X.pn ++ pins)) (v := .ref a) S4 hN hi hloc rfl (fun s5 S5 => ?_) (.inr hln)
    refine wpAny_mono ((hsu a (X.pn ++ pins)).run [] s5 _ _ _ S5 (hyes a na)) (fun f s6 hsp => ?_) (fun _ _ z => False.elim z)
    have end_ : ∀ {σ6 : L2.St} {H6 : Hp} {Q : Shared → Prop}, Inv (X.suite a (X.pn ++ pins)) [] σ6 H6 s6 → (∀ s7, Inv X pins (σ6.set i none) H6 s7 → Q s7) →
        wpAny (model X.prog X.w) X.A (do bindName X.env n .none; unbindBehindTheSuite X.env n pos') (fun _ s7 => Q s7) X.xe s6 := fun {σ6 H6 Q} S6 hq => gone_ok (Pu.Inv.unsuiteX S6 ok) hN hi hln hq
    cases f with
    | next =>
      obtain ⟨σ6, H6, S6, q6⟩ := hsp
      exact end_ S6 fun s7 J7 => ⟨_, _, J7, q6⟩
    | brk =>
      obtain ⟨σ6, H6, S6, q6⟩ := hsp
      exact end_ S6 fun s7 J7 => ⟨_, _, J7, q6⟩
    | cont =>
      obtain ⟨σ6, H6, S6, q6⟩ := hsp
      exact end_ S6 fun s7 J7 => ⟨_, _, J7, q6⟩
    | ret u =>
      obtain ⟨v6, σ6, H6, S6, r6, q6⟩ := hsp
      exact end_ S6 fun s7 J7 => ⟨_, _, _, J7, r6, q6⟩
  · cases f with
    | next =>
      obtain ⟨σ', H', J', q⟩ := hsp
      exact wpAny_execs_nil ⟨σ', H', J'.ofTry ok, q⟩
    | brk =>
      obtain ⟨σ', H', J', q⟩ := hsp
      exact ⟨σ', H', J'.ofTry ok, q⟩
    | cont =>
      obtain ⟨σ', H', J', q⟩ := hsp
      exact ⟨σ', H', J'.ofTry ok, q⟩
    | ret u =>
      obtain ⟨v, σ', H', J', r, q⟩ := hsp
      exact ⟨v, σ', H', J'.ofTry ok, r, q⟩
end

/-! ### isinstance, attributes -/
/-- an exception's dict stands in the heap -/
def DOk (H : Hp) (d : Option Addr) : Prop := d = none ∨ ∃ dd fs, d = some dd ∧ H dd = some (.xd fs)
section
variable {X : Cx} {pins : List (Addr × Obj)} {σ : L2.St} {H : Hp} {s : Shared} {a C : Addr} {d : Option Addr}
theorem exT_inst (I : Inv X pins σ H s) (ha : H a = some (exT a C d)) (hd : DOk H d) : ∃ oe od, PySem.W.InstAt s.heap a oe C od := by
  obtain ⟨oe, vs, hget, hz, hv⟩ := exT_at I.hok ha
  obtain ⟨oc, odt, oda, osl⟩ := oe
  obtain ⟨h1, h2⟩ := hz
  dsimp only at h1 h2 hv
  subst h1 h2 hv
  rcases hd with rfl | ⟨dd, fs, rfl, hx⟩
  · exact ⟨_, none, hget, rfl, rfl, trivial⟩
  · obtain ⟨mA, hns, _⟩ := (show ObjOk X.prog X.w H s.heap dd (.xd fs) from I.hok dd _ hx)
    obtain ⟨od, ho, _⟩ := lookIn_ns hns
    exact ⟨_, some od, hget, rfl, rfl, ho⟩
end
/-- isinstance(e, c) -/
def rIsX (K : PySem.W.Frag) : List V → Hp → VK → Prop := fun xs H Q => ∃ (a C : Addr) (d : Option Addr) (c : V) (cv : Value) (b : Bool), xs = [.ref a, c] ∧ H a = some (exT a C d) ∧ DOk H d ∧ ExcC K C ∧ (∀ u, RelV c u → u = cv) ∧ PySem.W.kitOne K (.ref C) cv = some b ∧ Q (.bl b) H
theorem kitx_of_excC {K : PySem.W.Frag} {x C : Addr} {ox : Obj} {od : Option Obj} (F : ExcC K C) : PySem.W.KitX K (.ref x) (.ref C) (fun h => PySem.W.InstAt h x ox C od) := by
  have hcl : (PySem.W.clsIn K C).isSome = true := by
    obtain ⟨cd, hc, _⟩ := PySem.W.any_some F.hd
    rw [hc]; rfl
  exact PySem.W.kitx_exc hcl F.hg F.hk F.hs F.ha F.hn F.ht F.hm
theorem call_isX {X : Cx} : CallR X (.builtin "isinstance") (rIsX X.K) := by
  intro pins s σ H xs us Q I r h
  obtain ⟨a, C, d, c, cv, b, rfl, ha, hd, F, hcv, e, q⟩ := h
  cases r with
  | cons rx rr =>
    cases rr with
    | cons rt rr =>
      cases rr
      cases rx
      have ec := hcv _ rt
      subst ec
      obtain ⟨oe, od, J⟩ := exT_inst I ha hd
      exact PySem.W.kia_one (kitx_of_excC F) I.kIn J e (fun z => nomatch z) fun tk => ⟨.bl b, H, I.kept (t' := tk) fun _ _ z => z, rfl, q⟩
/-- isinstance(e, (c, ..)) -/
def rIsXT (K : PySem.W.Frag) : List V → Hp → VK → Prop := fun xs H Q => ∃ (a C : Addr) (d : Option Addr) (p : Addr) (cs : List V) (cvs : List Value) (b : Bool), xs = [.ref a, .ref p] ∧ H a = some (exT a C d) ∧ DOk H d ∧ ExcC K C ∧ H p = some (.tup cs) ∧
  (∀ us, Vals cs us → us = cvs) ∧ PySem.W.kitAny K (.ref C) cvs = some b ∧ Q (.bl b) H
theorem call_isXT {X : Cx} : CallR X (.builtin "isinstance") (rIsXT X.K) := by
  intro pins s σ H xs us Q I r h
  obtain ⟨a, C, d, p, cs, cvs, b, rfl, ha, hd, F, hp, hcv, e, q⟩ := h
  cases r with
  | cons rx rr =>
    cases rr with
    | cons rt rr =>
      cases rr
      cases rx
      cases rt
      obtain ⟨_, its, rv, o, ho, hc, n, hdat⟩ := (show ObjOk X.prog X.w H s.heap p (.tup cs) from I.hok p _ hp)
      have ec := hcv _ rv
      subst ec
      obtain ⟨oc, odt, oda, osl⟩ := o
      dsimp only at hc hdat
      subst hc hdat
      obtain ⟨oe, od, J⟩ := exT_inst I ha hd
      exact PySem.W.kia_tup (kitx_of_excC F) I.kIn J ho e (fun z => nomatch z) fun tk => ⟨.bl b, H, I.kept (t' := tk) fun _ _ z => z, rfl, q⟩
/-- e.f -/
def tXfX (K : PySem.W.Frag) (f : Str) (te : TE) : TE := fun σ H Q => te σ H fun x H1 => ∃ (a C dd : Addr) (fs : List (Str × V)) (v : V), x = .ref a ∧ H1 a = some (exT a C (some dd)) ∧ XfC K C ∧ PySem.W.findIn K (.ref C) f = some none ∧ H1 dd = some (.xd fs) ∧ fs.lookup f = some v ∧ Q v H1
theorem pe_xfX {X : Cx} {e : Expr} {te : TE} {pos : Pos} {n : Str} (he : PE X e te) (hb : attributeBase e n X.env (eval e X.env) = eval e X.env := by rfl) : PE X (.Attribute e n pos) (tXfX X.K n te) := by
  refine ⟨fun pins s σ H Q I h => ?_⟩
  refine attr_of hb (thn (he.run pins s σ H _ I h) fun u s1 hh => ?_)
  obtain ⟨x, H1, I1, rx, a, C, dd, fs, v, ex, ha, T, hno, ea, l, q⟩ := hh
  subst ex
  obtain rfl : u = Value.ref a := rx
  obtain ⟨oe, vs, hget, hz, hd⟩ := exT_at I1.hok ha
  have hx : ObjOk X.prog X.w H1 s1.heap dd (.xd fs) := I1.hok dd _ ea
  obtain ⟨mA, hns, hr⟩ := hx
  obtain ⟨od, ho, hl⟩ := lookIn_ns hns
  obtain ⟨u, hu, ru⟩ := RelO.some_of (v := v) (o := mA n) (by rw [← l]; exact hr n)
  have J : PySem.W.InstAt s1.heap a oe C (some od) := ⟨hget, hz.1, by unfold PySem.W.notCls; rw [hd] <;> rfl, by rw [hz.2]; exact ho⟩
  exact HandSPX.exc_get I1.kIn J T.ga T.gg T.exC (PySem.W.findObj_own T.hdC hno rfl (by rw [hl, hu])) (handed_of ru) ⟨v, H1, I1.tok _, ru, q⟩

/-! ### Base.__init__(self, ..), Base a class of the program that has no __init__ of its own -/
theorem pe_meinit {X : Cx} {C0 : Addr} {x : Str} {e : Expr} {es : List Expr} {ta : TA} {p1 p2 pos : Pos} {pl : Sem Bool} (hg : Gl X x) (hm : X.mg x = some (.ref C0)) (hr : PySem.W.readsIn X.K C0 (.type "type") = true)
    (hs : PySem.W.specialIn X.K (.ref C0) "__getattribute__" = some (some (.builtin "type.__getattribute__"))) (vV : PySem.W.findCls X.K (.ref C0) (.type "type") "__init__" = some (.val (.builtin "ValueError.__init__"))) (ha : PA X (e :: es) ta)
    (hdb : (x == ("__debug__" : Str)) = false := by decide)
    (hc : eval (.Call (.Attribute (.Name x p1) "__init__" p2) (e :: es) [] pos) X.env = (do
      let ov ← eval (.Name x p1) X.env
      standAt p2.atName
      let (f, first) ← holding [ov] (getMethod ov "__init__" pl)
      callWith pos f first (backTo pos (starEach (e :: es) X.env)) (backToKw pos (keywordEach [] X.env))) := by rfl)
    (he : starEach (e :: es) X.env = (false, eval e X.env) :: starEach es X.env := by rfl) (hpl : (backTo pos (starEach es X.env)).any (·.1) = false := by rfl) :
    PE X (.Call (.Attribute (.Name x p1) "__init__" p2) (e :: es) [] pos) (tVeI X.K ta) := by
  refine ⟨fun pins s σ H Q I h => ?_⟩
  refine PySem.W.methodCall_KW (ld_glob I hg hm ?_ hdb) hc
  refine PySem.W.method_cls I.kIn hs (PySem.W.cls_value I.kIn hr vV (by decide +kernel) ?_)
  show wpAny _ _ (callWith pos (Value.builtin "ValueError.__init__") [] (backTo pos (starEach (e :: es) X.env)) []) _ _ _
  refine PyProof.Rows.callWith_method1 (thn (ha.run pos pins _ σ H _ (I.tok _) h) fun us s1 ⟨vs, H1, I1, r1, a, C, ws, ev, hl, T, ea, q⟩ => ?_) he hpl
  subst ev
  cases r1 with
  | @cons _ u0 _ ur ra rw' =>
    obtain rfl : u0 = Value.ref a := ra
    have hlen : ur.length ≤ sizeLine := by
      rw [← Paired.length rw', sizeLine_eq]
      omega
    exact oinit_ok T I1 ea hlen fun s' J => ⟨.non, H1, J, rfl, q⟩
/-- what an own __init__ promises that keeps its arguments by the names ns, in this order -/
def spI (C : Addr) (ns : List Str) : Sp := fun vs H Q _ => ∃ (a : Addr) (ws : List V), vs = .ref a :: ws ∧ ws.length = ns.length ∧ ns ≠ [] ∧ H a = some (exo a C none) ∧
  ∀ dx, H dx = none → dx ≠ a → Q .non (upd (upd H dx (exd dx (ns.zip ws).reverse)) a (exo a C (some dx)))
end Pu
set_option maxRecDepth 100000
set_option maxHeartbeats 4000000
/-! exceptions in the pure layer -/
namespace Pu
open PySem L2 PySem.Spec PyProof.Rows
section
variable {Γ Γ' : Gm} {κ κ' : Ka} {H H' : Hp} {env env' : En} {σ : Sl} {v : V} {st : Sto} {Y : Fam} {a b e : Expr} {es : List Expr} {ta tb te : PTE} {pos : Pos}
abbrev PMX := List D → Sto → (C → Sto → Prop) → PX → Prop
/-- a def that may raise, by its pure promise -/
def spX (K : PySem.W.Frag) (cls : Nat → Addr) (flds : Nat → List Str) (m : PMX) : Sp := fun vs H Q E => ∃ (κ : Ka) (ds : List D) (st : Sto) (Q' : C → Sto → Prop) (x' : PX),
  Gh ⟨K, H, κ, cls, flds, E0, noX⟩ κ st H ∧ RepL K cls κ H vs ds ∧ m ds st Q' x' ∧
  (∀ v κ' H' c st', Gh ⟨K, H, κ, cls, flds, E0, noX⟩ κ' st' H' → RelC ⟨K, H, κ, cls, flds, E0, noX⟩ κ' H' v c → Q' c st' → Q v H') ∧ XOk ⟨K, H, κ, cls, flds, E, x'⟩
theorem Gh.same (g : Gh Γ κ st H) (hK : Γ'.K = Γ.K := by rfl) (hc : Γ'.cls = Γ.cls := by rfl) (h0 : Γ'.H0 = Γ.H0 := by rfl) (hk : Γ'.k0 = Γ.k0 := by rfl) : Gh Γ' κ st H :=
  ⟨by rw [hk]; exact g.sub, by rw [hk, h0]; exact g.new, g.trk, by rw [h0]; exact g.trk0, g.box, fun a k e => let ⟨so, h1, h2⟩ := g.obj a k e; ⟨so, h1, h2.switch hK hc⟩, g.inj, by rw [hk, h0]; exact g.base⟩
def famX (P : Program) (w : World) (K : PySem.W.Frag) (mg : Str → Option Value) (base : Heap) (N : List Str) (qual : Str) (sc : Scope) (f : Addr) (k : Nat) (cls : Nat → Addr) (flds : Nat → List Str) : Fam where
  ι := DI qual sc f k
  X := fun i => cxOf (L2.CX P w) P w K mg base N qual sc f i.cdv i.A i.outer i.s i.H i.E
  E := fun i => i.E
  K := K
  hK := fun _ => rfl
  cls := cls
  flds := flds
/-- the exceptions of the family are taken -/
def Tks (Y : Fam) : Prop := ∀ i, Takes (Y.X i) (fun cls d _ H => Y.E i cls d H)
theorem tkX {P : Program} {w : World} {K : PySem.W.Frag} {mg : Str → Option Value} {base : Heap} {N : List Str} {qual : Str} {sc : Scope} {f : Addr} {k : Nat} {cls : Nat → Addr} {flds : Nat → List Str} : Tks (famX P w K mg base N qual sc f k cls flds) :=
  fun i => takes_of rfl rfl rfl rfl
theorem hpX {P : Program} {w : World} {K : PySem.W.Frag} {mg : Str → Option Value} {base : Heap} {N : List Str} {qual : Str} {sc : Scope} {f : Addr} {k : Nat} {cls : Nat → Addr} {flds : Nat → List Str} : ∀ i, PassesOwn (model ((famX P w K mg base N qual sc f k cls flds).X i).prog ((famX P w K mg base N qual sc f k cls flds).X i).w) ((famX P w K mg base N qual sc f k cls flds).X i).A ((famX P w K mg base N qual sc f k cls flds).X i).env ((famX P w K mg base N qual sc f k cls flds).X i).xe :=
  fun i => passes_of rfl
theorem hgX {P : Program} {w : World} {K : PySem.W.Frag} {mg : Str → Option Value} {base : Heap} {N : List Str} {qual : Str} {sc : Scope} {f : Addr} {k : Nat} {cls : Nat → Addr} {flds : Nat → List Str} : ∀ i, ((famX P w K mg base N qual sc f k cls flds).X i).A.guards = some [] := fun i => i.gd
theorem huX {P : Program} {w : World} {K : PySem.W.Frag} {mg : Str → Option Value} {base : Heap} {N : List Str} {qual : Str} {sc : Scope} {f : Addr} {k : Nat} {cls : Nat → Addr} {flds : Nat → List Str} : Hu (famX P w K mg base N qual sc f k cls flds) := fun i => by
  have := i.hr.un
  show (i.A.deeper _).units + _ < _
  omega
/-- THE RULE for a def that may raise -/
theorem fnX {P : Program} {w : World} {K : PySem.W.Frag} {mg : Str → Option Value} {base : Heap} {N ps : List Str} {x qual : Str} {st : Stmt} {f : Addr} {fd : FuncData} {k : Nat} {cls : Nat → Addr} {flds : Nat → List Str} {t : PTS} {m : PMX}
    (F : Fun K x qual st f fd) (S : FnScope N ps (defScope st)) (h : VSs (famX P w K mg base N qual (defScope st) f k cls flds) (defBody st) t) (len : ∀ ds s Q X, m ds s Q X → ds.length = ps.length)
    (ok : ∀ ds s Q X, m ds s Q X → t X { nx := fun e => Q (.d .non) e.st, rt := fun c e => Q c e.st } ⟨startC N ds, s⟩) : FnG P w K mg base (L2.CX P w) (k + 1) f fd ps (spX K cls flds m) := by
  refine fnG_of F S (fun vs H Q E hq => ?_) (fun cdv A outer s H vs Q E hr gd hq => ?_)
  · obtain ⟨κ, ds, st, Q', x', g, r, hm, _⟩ := hq
    rw [r.length]
    exact len ds st Q' x' hm
  · obtain ⟨κ, ds, st', Q', x', g, r, hm, fin, xok⟩ := hq
    obtain ⟨rd, ph, fh⟩ := h.ex
    refine ⟨rd E, ph ⟨cdv, A, outer, s, H, E, hr, gd⟩, ?_⟩
    have g' : Gh ⟨K, H, κ, cls, flds, E, x'⟩ κ st' H := Gh.same g
    refine fh ⟨K, H, κ, cls, flds, E, x'⟩ (L2.start N vs) κ H ⟨startC N ds, st'⟩ _ _ ⟨rfl, rfl, rfl, xok⟩ (start_rl g' r) (ok ds st' Q' x' hm) ⟨fun σ' κ' H' e' x I q => ?_, fun v κ' H' c e' x gg rr q => ?_, fun _ _ _ _ _ _ q => False.elim q, fun _ _ _ _ _ _ q => False.elim q⟩
    · exact fin .non κ' H' (.d .non) e'.st (Gh.same I.gh) .non q
    · refine fin v κ' H' c e'.st (Gh.same gg) ?_ q
      cases c with
      | un => exact rr.elim
      | d d => exact rr
      | own ds => obtain ⟨a, e, h1⟩ := rr; exact ⟨a, e, OwnC.switch (Γ' := ⟨K, H, κ, cls, flds, E0, noX⟩) rfl rfl h1.facts.2.1 h1⟩
      | dK ds => obtain ⟨a, e, h1⟩ := rr; exact ⟨a, e, OwnC.switch (Γ' := ⟨K, H, κ, cls, flds, E0, noX⟩) rfl rfl h1.facts.2.1 h1⟩
      | dT ds => obtain ⟨a, e, h1⟩ := rr; exact ⟨a, e, OwnC.switch (Γ' := ⟨K, H, κ, cls, flds, E0, noX⟩) rfl rfl h1.facts.2.1 h1⟩
/-- a call of a def that may raise -/
def tCallX (m : PMX) (t : PTA) : PTE := fun x e Q => t x e fun ds e1 => m ds e1.st (fun c st' => Q c.toR ⟨e1.sl, st'⟩) x
theorem ve_callX {k : Nat} {f : Addr} {fd : FuncData} {ps : List Str} {x : Str} {p : Pos} {m : PMX} {t : PTA} (F : ∀ i, FnG (Y.X i).prog (Y.X i).w (Y.X i).K (Y.X i).mg (Y.X i).base (L2.CX (Y.X i).prog (Y.X i).w) k f fd ps (spX Y.K Y.cls Y.flds m)) (tk : Tks Y) (hr : ∀ i, Room k (Y.X i).A) (hgd : ∀ i, (Y.X i).A.guards = some []) (hm : ∀ i, (Y.X i).mg x = some (.ref f)) (hk : PySem.W.keepIn Y.K (.ref f) = true) (hb : Binds Y.K fd ps [])
    (ha : VA Y (e :: es) t) (hg : ∀ i, Gl (Y.X i) x := by intro _; rfl) (hdb : (x == ("__debug__" : Str)) = false := by decide) (he : ∀ X : Cx, starEach (e :: es) X.env = (false, eval e X.env) :: starEach es X.env := by intro _; rfl) (hpl : ∀ X : Cx, (backTo pos (starEach es X.env)).any (·.1) = false := by intro _; rfl) :
    VE Y (.Call (.Name x p) (e :: es) [] pos) (tCallX m t) := by
  obtain ⟨ra, pa, fa⟩ := ha.ex
  refine ⟨⟨fun E => tCall (spX Y.K Y.cls Y.flds m) [] E (ra E), fun i => pe_callG (F i) (hr i) (hgd i) (hg i) (hm i) (by rw [Y.hK i]; exact hk) (by rw [Y.hK i]; exact hb) .nil (passes_call (tk i) fun _ _ _ _ h => h) (pa i) hdb (he _) (hpl _), fun Γ σ κ H env Q Q' hK I q k => ?_⟩⟩
  refine fa Γ σ κ H env _ _ hK I q fun vs κ1 H1 ds e1 x1 I1 h1 q1 => ?_
  rw [List.append_nil, ← hK.k, ← hK.c, ← hK.f]
  refine ⟨κ1, ds, e1.st, _, Γ.x, Gh.enter I1, h1, q1, fun v κ' H' c st' g r q => ?_, fun κ' H' st' c ds' vs' d g hx r ed => ?_⟩
  · exact k v κ' H' c.toR ⟨e1.sl, st'⟩ (x1.trans (Ext.leave I1.gh g)) (I1.leave g) (RelC.leave I1 r) q
  · exact hK.x κ' H' st' c ds' vs' d (Gh.leave I1.gh g) hx r ed

/-! ### raise -/
def sRaise (c n : Nat) (t : PTA) : PTS := fun x D e => t x e fun ds e1 => ds.length = n ∧ x ⟨c, ds⟩ e1.st
theorem vs_raise {c n k : Nat} {x : Str} {p pos2 : Pos} {fI : Addr} {fd : FuncData} {ps : List Str} {t : PTA} (hcalm : ∀ i, (Y.X i).calm = true) (tk : Tks Y) (T : OexC Y.K (Y.cls c)) (iC : PySem.W.findIn Y.K (.ref (Y.cls c)) "__init__" = some (some (.ref fI))) (tI : PySem.W.typeIn Y.K (.ref fI) = some (.type "function"))
    (F1 : ∀ i, FnOk (Y.X i).prog (Y.X i).w (Y.X i).K (Y.X i).mg (Y.X i).base CX0 k fI fd ps (spI (Y.cls c) (Y.flds c))) (hr : ∀ i, Room (k + 1) (Y.X i).A) (hb : Binds Y.K fd ps []) (hm : ∀ i, (Y.X i).mg x = some (.ref (Y.cls c))) (hn : (Y.flds c).length = n) (hl : n ≤ 900) (h0 : 0 < n) (ha : VA Y (e :: es) t)
    (hg : ∀ i, Gl (Y.X i) x := by intro _; rfl) (hdb : (x == ("__debug__" : Str)) = false := by decide) (he : ∀ X : Cx, starEach (e :: es) X.env = (false, eval e X.env) :: starEach es X.env := by intro _; rfl) (hpl : ∀ X : Cx, (backTo pos (starEach es X.env)).any (·.1) = false := by intro _; rfl) :
    VS Y (.Raise (some (.Call (.Name x p) (e :: es) [] pos)) none pos2) (sRaise c n t) := by
  obtain ⟨ra, pa, fa⟩ := ha.ex
  refine ⟨⟨fun E _ σ H => tMkO (Y.cls c) (spI (Y.cls c) (Y.flds c)) [] (ra E) σ H fun cls d H' => E cls d H', fun i => ps_raise (W := fun cls d _ H => Y.E i cls d H) (hcalm i) (tk i)
    (pmk_oex (by rw [Y.hK i]; exact T) (by rw [Y.hK i]; exact iC) (by rw [Y.hK i]; exact tI) (F1 i) (hr i) (by rw [Y.hK i]; exact hb) .nil pass0 (hg i) (hm i) (pa i) hdb (he _) (hpl _)), fun Γ σ κ H env D D' hK I q l => ?_⟩⟩
  refine fa Γ σ κ H env _ _ hK I q fun vs κ1 H1 ds e1 x1 I1 h1 q1 => ?_
  have lv : vs.length = n := h1.length.trans q1.1
  refine ⟨by omega, fun a na => ⟨a, vs, by rw [List.append_nil], lv.trans hn.symm, fun z => by rw [z] at hn; exact absurd hn.symm (Nat.ne_of_gt h0), upd_same, fun dx hdx ne => ?_⟩⟩
  have n1 : H1 dx = none := by rw [upd_ne ne] at hdx; exact hdx
  refine ⟨rfl, dx, _, upd_same, by rw [upd_ne ne, upd_same], n1, ?_⟩
  have eq : ∀ o o1 o2 o3 : HO, upd (del (upd (upd (upd H1 a o1) dx o2) a o3) a) dx o = upd H1 dx o := fun o o1 o2 o3 => by
    funext z
    by_cases hz : z = dx
    · rw [hz, upd_same, upd_same]
    · rw [upd_ne hz, upd_ne hz]
      by_cases hza : z = a
      · rw [hza, del_same, na]
      · rw [del_ne hza, upd_ne hza, upd_ne hz, upd_ne hza]
  rw [eq]
  have J := I1.upd_new (o := .xd ((Y.flds c).zip vs).reverse) n1
  have J2 := J.put_frz (a := dx) (I1.gh.nokap n1) (I1.gh.nokap0 n1) (by rw [upd_same]; simp) (fun i hs => I1.fresh n1 i hs)
  have e1' : Ext κ1 H1 (put κ1 dx .frz) (upd H1 dx (.xd ((Y.flds c).zip vs).reverse)) := (Ext.upd_new I1.gh n1).trans (Ext.put (I1.gh.nokap n1))
  rw [← hK.c]
  exact hK.x _ _ e1.st c ds vs (some dx) J2.gh q1.2 (h1.mono e1') (.inr ⟨dx, rfl, put_same, by rw [hK.f]; exact upd_same⟩)

/-! ### try, except X as e -/
structure TrI (X : Cx) where
  pn : List (Addr × Obj)
  xe : Value → Shared → Prop
  W : WX
  tk : Takes (X.tr pn xe) W
  po : PassesOwn (model X.prog X.w) X.A X.env xe
def Fam.tr (Y : Fam) : Fam where
  ι := (i : Y.ι) × TrI (Y.X i)
  X := fun p => (Y.X p.1).tr p.2.pn p.2.xe
  E := fun p cls d H => ∀ σ : Sl, σ.length = (Y.X p.1).N.length → p.2.W cls d σ H
  K := Y.K
  hK := fun p => Y.hK p.1
  cls := Y.cls
  flds := Y.flds
def Fam.su (Y : Fam) : Fam where
  ι := Y.ι × Addr × List (Addr × Obj)
  X := fun p => (Y.X p.1).suite p.2.1 p.2.2
  E := fun _ => E0
  K := Y.K
  hK := fun p => Y.hK p.1
  cls := Y.cls
  flds := Y.flds
theorem tk_tr : Tks Y.tr := fun p u s' x => by
  refine p.2.tk u s' ?_
  obtain ⟨a, B, sI, pins, σ, H, cls, d, e, I, nb, up, sky, na, os, ag, w⟩ := x
  exact ⟨a, B, sI, pins, σ, H, cls, d, e, I, nb, up, sky, na, os, ag, w σ I.len⟩
theorem hp_tr : ∀ i, PassesOwn (model (Y.tr.X i).prog (Y.tr.X i).w) (Y.tr.X i).A (Y.tr.X i).env (Y.tr.X i).xe := fun p => p.2.po
theorem hg_tr (h : ∀ i, (Y.X i).A.guards = some []) : ∀ i, (Y.tr.X i).A.guards = some [] := fun p => h p.1
theorem hu_tr (h : Hu Y) : Hu Y.tr := fun p => h p.1
theorem hu_su (h : Hu Y) : Hu Y.su := fun p => h p.1
/-- fl: the names of the fields; cb: which classes the clause takes; n: how many slots -/
def sTry (n i : Nat) (fl : Nat → List Str) (cb : Nat → Bool) (tb ts : PTS) : PTS := fun x D e => (e.sl.all fun c => !c.isOwn) = true ∧ i < n ∧
  tb (fun ex st => cb ex.c = true ∧ ts noX { nx := fun e' => D.nx (wipeE [i] e'), rt := D.rt, bk := fun e' => D.bk (wipeE [i] e'), ct := fun e' => D.ct (wipeE [i] e') } ⟨(List.replicate n C.un).set i (.d (.exc ex.c (fl ex.c) ex.ds)), st⟩) D e
theorem RelC.same {c : C} (hK : Γ'.K = Γ.K) (hc : Γ'.cls = Γ.cls) (h0 : ∀ a, Γ.H0 a = none → Γ'.H0 a = none) (h : RelC Γ κ H v c) : RelC Γ' κ H v c := by
  cases c with
  | un => exact h.elim
  | d d => show Rep Γ'.K Γ'.cls κ H v d; rw [hK, hc]; exact h
  | own ds => obtain ⟨a, e, h1⟩ := h; exact ⟨a, e, OwnC.switch hK hc (h0 a h1.facts.2.1) h1⟩
  | dK ds => obtain ⟨a, e, h1⟩ := h; exact ⟨a, e, OwnC.switch hK hc (h0 a h1.facts.2.1) h1⟩
  | dT ds => obtain ⟨a, e, h1⟩ := h; exact ⟨a, e, OwnC.switch hK hc (h0 a h1.facts.2.1) h1⟩
theorem try_back {E : XK} {x : PX} {e' : En} {σ' : Sl} (I : Rl Γ κ env σ H) (I' : Rl ⟨Γ.K, H, κ, Γ.cls, Γ.flds, E, x⟩ κ' e' σ' H') : Rl Γ κ' e' σ' H' :=
  Rl.switch (Γ := ⟨Γ.K, H, κ, Γ.cls, Γ.flds, E, x⟩) (Γ' := Γ) rfl rfl I' (fun j b hs => by
    obtain ⟨c', _, h1⟩ := I'.ownS hs
    exact I.gh.nokap0 h1.facts.2.1) (Gh.leave I.gh I'.gh)
theorem try_in {E : XK} {x : PX} (I : Rl Γ κ env σ H) (no : ∀ j a, ¬ OwnS env σ j a) : Rl ⟨Γ.K, H, κ, Γ.cls, Γ.flds, E, x⟩ κ env σ H :=
  Rl.switch (Γ := Γ) rfl rfl I (fun j a hs => absurd hs (no j a)) (Gh.enter I)
theorem vs_try {n i : Nat} {x nm : Str} {np pos' : Pos} {C0 : Addr} {body suite : List Stmt} {b₀ : Stmt} {fl : Nat → List Str} {cb : Nat → Bool} {tb ts : PTS} (hbody : VSs Y.tr body tb) (hsu : VSs Y.su (b₀ :: suite) ts) (hN : ∀ j, (Y.X j).N.Nodup) (hm : ∀ j, (Y.X j).mg x = some (.ref C0)) (hfl : Y.flds = fl)
    (hcb : ∀ c, cb c = true → PySem.W.exmOne Y.K (.ref (Y.cls c)) (.ref C0) = some true) (hn : ∀ j, (Y.X j).N.length = n := by intro _; rfl) (hi : ∀ j, (Y.X j).N[i]? = some nm := by intro _; rfl) (hg : ∀ j, Gl (Y.X j) x := by intro _; rfl) (hdb : (x == ("__debug__" : Str)) = false := by decide)
    (hs : ∀ j, (Y.X j).stack = (Y.X j).env :: (Y.X j).outer := by intro _; rfl) (hf : ∀ j, (Y.X j).env.frame = some (Y.X j).env.locals := by intro _; rfl) (hex : ∀ j, (Y.X j).ex = [] := by intro _; rfl) (hln : ∀ j, (Y.X j).env.kindOf nm = some .local := by intro _; rfl) :
    VS Y (.Try body [.ExceptHandler (some (.Name x np)) (some nm) (b₀ :: suite) pos'] [] [] pos) (sTry n i fl cb tb ts) := by
  obtain ⟨rb, pb, fb⟩ := hbody.ex
  obtain ⟨rs, ps, fs⟩ := hsu.ex
  refine ⟨⟨fun _ D σ H => rb (fun cls d H => ∀ σ : Sl, σ.length = n → wTry Y.K (.ref C0) i (rs E0) D cls d σ H) D σ H, fun j => ?_, fun Γ σ κ H env D D' hK I q l => ?_⟩⟩
  · have z := ps_try_x (X := Y.X j) (i := i) (body := body) (b₀ := b₀) (suite := suite) (np := np) (pos := pos) (pos' := pos') (tb := fun W => rb (fun cls d H => ∀ σ : Sl, σ.length = n → W cls d σ H)) (ts := rs E0) (hs j) (hf j) (hex j) (hN j) (hi j) (hln j) ⟨hg j, hdb, .inl (hm j)⟩
      (fun W pn xe tk po => by have z := pb ⟨j, pn, xe, W, tk, po⟩; rw [← hn j]; exact z) (fun a pn => ps ⟨j, a, pn⟩)
    rw [Y.hK j] at z
    exact z
  · obtain ⟨ho, hin, q⟩ := q
    have noOwn : ∀ j a, ¬ OwnS env σ j a := fun j a hs => by
      obtain ⟨_, c, hc, h1⟩ := hs
      have := List.all_eq_true.mp ho c (List.mem_of_getElem? hc)
      rw [h1] at this
      cases this
    have low : ∀ a, H a = none → Γ.H0 a = none := fun a z => I.gh.nokap0 z
    have xok : XOk ⟨Γ.K, H, κ, Γ.cls, Γ.flds, fun cls d H => ∀ σ : Sl, σ.length = n → wTry Y.K (.ref C0) i (rs E0) D' cls d σ H, fun ex st => cb ex.c = true ∧ ts noX { nx := fun e' => D.nx (wipeE [i] e'), rt := D.rt, bk := fun e' => D.bk (wipeE [i] e'), ct := fun e' => D.ct (wipeE [i] e') } ⟨(List.replicate n C.un).set i (.d (.exc ex.c (fl ex.c) ex.ds)), st⟩⟩ := by
      intro κs Hs st c ds vs d g hx r ed
      obtain ⟨hc, qs⟩ := hx
      intro σs hσ
      refine ⟨by show PySem.W.exmOne Y.K (.ref (Γ.cls c)) _ = _; rw [hK.c]; exact hcb c hc, _, rfl, fun a na => ?_⟩
      have gΓ : Gh Γ κs st Hs := Gh.leave I.gh g
      have xs : Ext κ H κs Hs := Ext.leave I.gh g
      have R0 : Rl { Γ with E := E0, x := noX } κs ⟨List.replicate n C.un, st⟩ σs Hs := by
        refine ⟨by simpa using hσ, fun j c' ec => ?_, fun j k b o1 _ => ?_, Gh.same gΓ⟩
        · have ec : (List.replicate n C.un)[j]? = some c' := ec
          rw [List.getElem?_replicate] at ec
          split at ec
          · cases ec; trivial
          · cases ec
        · obtain ⟨_, c', ec, hc'⟩ := o1
          have ec : (List.replicate n C.un)[j]? = some c' := ec
          rw [List.getElem?_replicate] at ec
          split at ec
          · cases ec; cases hc'
          · cases ec
      have R1 := R0.upd_new (o := exT a (Γ.cls c) d) na
      have R2 := R1.put_frz (a := a) (R0.gh.nokap na) (R0.gh.nokap0 na) (by rw [upd_same]; simp) (fun i hs => R0.fresh na i hs)
      have x2 : Ext κs Hs (put κs a .frz) (upd Hs a (exT a (Γ.cls c) d)) := (Ext.upd_new R0.gh na).trans (Ext.put (R0.gh.nokap na))
      have ed' : ExD (put κs a .frz) (upd Hs a (exT a (Γ.cls c) d)) d (fl c) vs := by
        rw [← hfl, ← hK.f]
        rcases ed with z | ⟨dd, z1, z2, z3⟩
        · exact .inl z
        · exact .inr ⟨dd, z1, x2.1 _ _ z2, (x2.2 _ z2).trans z3⟩
      have R3 := R2.assign (i := i) (c := .d (.exc c (fl c) ds)) (v := .ref a) (by rw [hσ]; exact hin) ⟨_, rfl, .exc put_same upd_same ed' (RepL.mono x2 r)⟩ (fun z => nomatch z)
      have own' : ∀ {e' : En} {σ' : Sl} {κ' : Ka} {H' : Hp}, Rl { Γ with E := E0, x := noX } κ' e' σ' H' → Rl Γ κ' (wipeE [i] e') (σ'.set i none) H' := fun {e' σ' κ' H'} I' =>
        Rl.switch (Γ := { Γ with E := E0, x := noX }) rfl rfl (I'.wipe (vs := [i])) (fun j b hs => by
          obtain ⟨c', _, h1⟩ := (I'.wipe (vs := [i])).ownS hs
          exact h1.facts.2.1) (Gh.same (I'.wipe (vs := [i])).gh)
      refine fs { Γ with E := E0, x := noX } _ _ _ _ _ _ ⟨hK.k, hK.c, hK.f, fun _ _ _ _ _ _ _ _ z _ _ => False.elim z⟩ R3 qs ⟨fun σ' κ' H' e' x' I' q' => ?_, fun v κ' H' c e' x' gg rr q' => ?_, fun σ' κ' H' e' x' I' q' => ?_, fun σ' κ' H' e' x' I' q' => ?_⟩
      · exact l.1 _ κ' H' _ (xs.trans (x2.trans x')) (own' I') q'
      · exact l.2.1 v κ' H' c e' (xs.trans (x2.trans x')) (Gh.same gg) (RelC.same (Γ := { Γ with E := E0, x := noX }) rfl rfl (fun _ z => z) rr) q'
      · exact l.2.2.1 _ κ' H' _ (xs.trans (x2.trans x')) (own' I') q'
      · exact l.2.2.2 _ κ' H' _ (xs.trans (x2.trans x')) (own' I') q'
    exact fb ⟨Γ.K, H, κ, Γ.cls, Γ.flds, _, _⟩ σ κ H env D D' ⟨hK.k, hK.c, hK.f, xok⟩ (try_in I noOwn) q ⟨fun σ' κ' H' e' x I' q' => l.1 σ' κ' H' e' x (try_back I I') q', fun v κ' H' c e' x gg rr q' => l.2.1 v κ' H' c e' x (Gh.leave I.gh gg) (RelC.same (Γ := ⟨Γ.K, H, κ, Γ.cls, Γ.flds, _, _⟩) rfl rfl low rr) q', fun σ' κ' H' e' x I' q' => l.2.2.1 σ' κ' H' e' x (try_back I I') q', fun σ' κ' H' e' x I' q' => l.2.2.2 σ' κ' H' e' x (try_back I I') q'⟩

/-! ### isinstance(e, C), e.f -/
def tIsX (tb : Nat → Option Bool) (te : PTE) : PTE := fun x e Q => te x e fun r e1 => match rv r e1 with
  | some (.exc c _ _) => match tb c with
    | some b => Q (.d (.bl b)) e1
    | none => False
  | _ => False
theorem rep_exc {c : Nat} {ns : List Str} {ds : List D} {K : PySem.W.Frag} {cl : Nat → Addr} (r : Rep K cl κ H v (.exc c ns ds)) : ∃ (a : Addr) (d : Option Addr) (vs : List V), v = .ref a ∧ H a = some (exT a (cl c) d) ∧ DOk H d ∧ ExD κ H d ns vs ∧ RepL K cl κ H vs ds := by
  cases r with
  | exc h1 h2 h3 h4 =>
    refine ⟨_, _, _, rfl, h2, ?_, h3, h4⟩
    rcases h3 with ⟨z, _⟩ | ⟨dd, z1, z2, z3⟩
    · exact .inl z
    · exact .inr ⟨dd, _, z1, z3⟩
/-- the class named by x2: one of the program, or a built-in one -/
def NmC (X : Cx) (x : Str) (c : V) (cv : Value) : Prop := (∃ C : Addr, c = .ref C ∧ cv = .ref C ∧ X.mg x = some (.ref C)) ∨ (∃ T, c = .ty T ∧ cv = .type T ∧ X.mg x = none ∧ bootBuiltins x = some (.type T) ∧ x ≠ "__name__")
theorem NmC.pe {X : Cx} {x : Str} {c : V} {cv : Value} {p : Pos} (h : NmC X x c cv) (hg : Gl X x) (hd : (x == ("__debug__" : Str)) = false) : PE X (.Name x p) (tC c) := by
  rcases h with ⟨C, rfl, _, hm⟩ | ⟨T, rfl, _, hm, hb, hn⟩
  · exact pe_glob hg hm rfl hd
  · exact pe_bltn hg hm hb rfl hn hd
theorem NmC.rel {X : Cx} {x : Str} {c : V} {cv : Value} (h : NmC X x c cv) : ∀ u, RelV c u → u = cv := by
  rcases h with ⟨C, rfl, rfl, _⟩ | ⟨T, rfl, rfl, _⟩
  · exact fun u r => r
  · exact fun u r => r
theorem ve_isx {x2 : Str} {c2 : V} {cv : Value} {tb : Nat → Option Bool} {p' p2 : Pos} (hm : ∀ i, (Y.X i).mg "isinstance" = none) (hc : ∀ i, NmC (Y.X i) x2 c2 cv) (hx : ∀ c b, tb c = some b → ExcC Y.K (Y.cls c) ∧ PySem.W.kitOne Y.K (.ref (Y.cls c)) cv = some b) (he : VE Y e te)
    (hg : ∀ i, Gl (Y.X i) "isinstance" := by intro _; rfl) (hg2 : ∀ i, Gl (Y.X i) x2 := by intro _; rfl) (hd2 : (x2 == ("__debug__" : Str)) = false := by decide)
    (hs : ∀ X : Cx, starEach [e, .Name x2 p2] X.env = (false, eval e X.env) :: starEach [.Name x2 p2] X.env := by intro _; rfl) (hpl : ∀ X : Cx, (backTo pos (starEach [.Name x2 p2] X.env)).any (·.1) = false := by intro _; rfl) (hY : Nonempty Y.ι ∨ True := .inr trivial) : VE Y (.Call (.Name "isinstance" p') [e, .Name x2 p2] [] pos) (tIsX tb te) := by
  obtain ⟨ra, pa, fa⟩ := he.ex
  refine ⟨⟨fun E => tCB (fun xs H Q => (∀ u, RelV c2 u → u = cv) → rIsX Y.K xs H Q) (L2.tCons (ra E) (L2.tCons (tC c2) L2.tNil)), fun i => ?_, fun Γ σ κ H env Q Q' hK I q k => ?_⟩⟩
  · have h1 : CallR (Y.X i) (.builtin "isinstance") (fun xs H Q => (∀ u, RelV c2 u → u = cv) → rIsX Y.K xs H Q) := by
      have h0 := call_isX (X := Y.X i)
      rw [Y.hK i] at h0
      exact fun pins s σ H xs us Q I r h => h0 pins s σ H xs us Q I r (h (hc i).rel)
    exact pe_callB h1 (hg i) (hm i) (by decide +kernel) (pa_cons (pa i) (pa_cons ((hc i).pe (hg2 i) hd2) pa_nil) (hs _)) (by decide) (by decide) (hs _) (hpl _)
  · refine fa Γ σ κ H env _ _ hK I q fun v κ1 H1 r1 e1 x1 I1 h1 q1 => ?_
    intro hcv
    cases e' : rv r1 e1 with
    | none => rw [e'] at q1; exact q1.elim
    | some d =>
      rw [e'] at q1
      cases d with
      | exc c ns ds =>
        simp only at q1
        have rt := rv_ok I1 h1 e'
        obtain ⟨a, d, vs, rfl, ha, hd, _, _⟩ := rep_exc rt
        cases e3 : tb c with
        | none => rw [e3] at q1; exact q1.elim
        | some b =>
          rw [e3] at q1
          obtain ⟨F, hk⟩ := hx c b e3
          exact ⟨a, _, d, c2, cv, b, rfl, ha, hd, by rw [hK.c]; exact F, hcv, by rw [hK.c]; exact hk, k _ κ1 H1 (.d (.bl b)) e1 x1 I1 (.bl b) q1⟩
      | _ => exact q1.elim
/-- names of classes -/
inductive NmCs (X : Cx) : List Expr → List V → List Value → Prop
  | nil : NmCs X [] [] []
  | cons {x : Str} {p : Pos} {es : List Expr} {c : V} {cv : Value} {cs : List V} {cvs : List Value} (hg : Gl X x) (hd : (x == ("__debug__" : Str)) = false) (h : NmC X x c cv) (hs : starEach (.Name x p :: es) X.env = (false, eval (.Name x p) X.env) :: starEach es X.env) (r : NmCs X es cs cvs) : NmCs X (.Name x p :: es) (c :: cs) (cv :: cvs)
def tVals : List V → TA
  | [] => L2.tNil
  | c :: cs => L2.tCons (tC c) (tVals cs)
theorem NmCs.pa {X : Cx} {es : List Expr} {cs : List V} {cvs : List Value} (h : NmCs X es cs cvs) : PA X es (tVals cs) := by
  induction h with
  | nil => exact pa_nil
  | cons hg hd h hs r ih => exact pa_cons (h.pe hg hd) ih hs
theorem NmCs.rel {X : Cx} {es : List Expr} {cs : List V} {cvs : List Value} (h : NmCs X es cs cvs) : ∀ us, Vals cs us → us = cvs := by
  induction h with
  | nil => intro us r; cases r; rfl
  | cons hg hd h hs r ih =>
    intro us q
    cases q with
    | cons q1 q2 => rw [h.rel _ q1, ih _ q2]
theorem tVals_eq {σ : L2.St} {H : Hp} : ∀ {cs : List V} {Q : List V → Hp → Prop}, Q cs H → tVals cs σ H Q
  | [], _, h => h
  | c :: cs, Q, h => tVals_eq (cs := cs) (Q := fun vs H => Q (c :: vs) H) h
theorem ve_isxT {es2 : List Expr} {x1} {cs : List V} {cvs : List Value} {tb : Nat → Option Bool} {p' pos2 : Pos} (hm : ∀ i, (Y.X i).mg "isinstance" = none) (hc : ∀ i, NmCs (Y.X i) es2 cs cvs) (hx : ∀ c b, tb c = some b → ExcC Y.K (Y.cls c) ∧ PySem.W.kitAny Y.K (.ref (Y.cls c)) cvs = some b) (he : VE Y e te)
    (hl : cs.length ≤ 1000 := by exact Nat.le_of_ble_eq_true rfl) (hg : ∀ i, Gl (Y.X i) "isinstance" := by intro _; rfl)
    (hs : ∀ X : Cx, starEach [e, .Tuple es2 x1 pos2] X.env = (false, eval e X.env) :: starEach [.Tuple es2 x1 pos2] X.env := by intro _; rfl) (hpl : ∀ X : Cx, (backTo pos (starEach [.Tuple es2 x1 pos2] X.env)).any (·.1) = false := by intro _; rfl) : VE Y (.Call (.Name "isinstance" p') [e, .Tuple es2 x1 pos2] [] pos) (tIsX tb te) := by
  obtain ⟨ra, pa, fa⟩ := he.ex
  refine ⟨⟨fun E => tCB (fun xs H Q => (∀ us, Vals cs us → us = cvs) → rIsXT Y.K xs H Q) (L2.tCons (ra E) (L2.tCons (L2.tTup (tVals cs)) L2.tNil)), fun i => ?_, fun Γ σ κ H env Q Q' hK I q k => ?_⟩⟩
  · have h1 : CallR (Y.X i) (.builtin "isinstance") (fun xs H Q => (∀ us, Vals cs us → us = cvs) → rIsXT Y.K xs H Q) := by
      have h0 := call_isXT (X := Y.X i)
      rw [Y.hK i] at h0
      exact fun pins s σ H xs us Q I r h => h0 pins s σ H xs us Q I r (h (hc i).rel)
    exact pe_callB h1 (hg i) (hm i) (by decide +kernel) (pa_cons (pa i) (pa_cons (pe_tup (hc i).pa) pa_nil) (hs _)) (by decide) (by decide) (hs _) (hpl _)
  · refine fa Γ σ κ H env _ _ hK I q fun v κ1 H1 r1 e1 x1 I1 h1 q1 => ?_
    refine tVals_eq ⟨by rw [sizeLine_eq]; omega, fun p hp => ?_⟩
    intro hcv
    cases e' : rv r1 e1 with
    | none => rw [e'] at q1; exact q1.elim
    | some d =>
      rw [e'] at q1
      cases d with
      | exc c ns ds =>
        simp only at q1
        have rt : Rep Γ.K Γ.cls κ1 H1 v (.exc c ns ds) := rv_ok I1 h1 e'
        have x2 : Ext κ1 H1 κ1 (upd H1 p (.tup cs)) := Ext.upd_new I1.gh hp
        obtain ⟨a, d, vs, rfl, ha, hd, _, _⟩ := rep_exc (Rep.mono x2 rt)
        cases e3 : tb c with
        | none => rw [e3] at q1; exact q1.elim
        | some b =>
          rw [e3] at q1
          obtain ⟨F, hk⟩ := hx c b e3
          exact ⟨a, _, d, p, cs, cvs, b, rfl, ha, hd, by rw [hK.c]; exact F, upd_same, hcv, by rw [hK.c]; exact hk, k _ κ1 _ (.d (.bl b)) e1 (x1.trans x2) (I1.upd_new hp) (.bl b) q1⟩
      | _ => exact q1.elim
/-- e.f -/
def xlk (n : Str) (ns : List Str) (ds : List D) : Option D := ((ns.zip ds).reverse).lookup n
def tXA (n : Str) (cb : Nat → Bool) (te : PTE) : PTE := fun x e Q => te x e fun r e1 => match rv r e1 with
  | some (.exc c ns ds) => cb c = true ∧ match xlk n ns ds with
    | some d => Q (.d d) e1
    | none => False
  | _ => False
theorem PR.zip {K : PySem.W.Frag} {cl : Nat → Addr} : ∀ {ns : List Str} {ds : List D} {vs : List V}, RepL K cl κ H vs ds → PR K cl κ H (ns.zip vs) (ns.zip ds)
  | [], _, _, _ => by simp only [List.zip_nil_left]; exact .nil
  | _ :: _, [], _, h => by cases h; exact .nil
  | _ :: ns, d :: ds, _, h => by cases h with | cons h1 h2 => exact .cons h1 (PR.zip h2)
theorem PR.app {α : Type} {K : PySem.W.Frag} {cl : Nat → Addr} : ∀ {ds es : List (α × D)} {vs ws : List (α × V)}, PR K cl κ H vs ds → PR K cl κ H ws es → PR K cl κ H (vs ++ ws) (ds ++ es)
  | [], _, _, _, h, g => by cases h; exact g
  | _ :: _, _, _, _, h, g => by cases h with | cons h1 h2 => exact .cons h1 (PR.app h2 g)
theorem PR.rev {α : Type} {K : PySem.W.Frag} {cl : Nat → Addr} : ∀ {ds : List (α × D)} {vs : List (α × V)}, PR K cl κ H vs ds → PR K cl κ H vs.reverse ds.reverse
  | [], _, h => by cases h; exact .nil
  | _ :: _, _, h => by
    cases h with
    | cons h1 h2 =>
      rw [List.reverse_cons, List.reverse_cons]
      exact (PR.rev h2).app (.cons h1 .nil)
theorem PR.lookup {K : PySem.W.Frag} {cl : Nat → Addr} {n : Str} {d : D} : ∀ {ds : List (Str × D)} {vs : List (Str × V)}, PR K cl κ H vs ds → ds.lookup n = some d → ∃ v, vs.lookup n = some v ∧ Rep K cl κ H v d
  | [], _, h, e => by simp at e
  | (m, y) :: ds, _, h, e => by
    cases h with
    | @cons _ v _ _ _ h1 h2 =>
      rw [List.lookup_cons] at e ⊢
      by_cases z : (n == m) = true
      · rw [z] at e ⊢
        cases e
        exact ⟨_, rfl, h1⟩
      · rw [Bool.eq_false_iff.mpr z] at e ⊢
        exact PR.lookup h2 e
theorem ve_xattr {n : Str} {cb : Nat → Bool} (he : VE Y e te) (hx : ∀ c, cb c = true → ExcC Y.K (Y.cls c) ∧ PySem.W.findIn Y.K (.ref (Y.cls c)) n = some none) (hb : ∀ X : Cx, attributeBase e n X.env (eval e X.env) = eval e X.env := by intro _; rfl) : VE Y (.Attribute e n pos) (tXA n cb te) := by
  obtain ⟨ra, pa, fa⟩ := he.ex
  refine ⟨⟨fun E => tXfX Y.K n (ra E), fun i => by have z := pe_xfX (pos := pos) (pa i) (hb (Y.X i)); rw [Y.hK i] at z; exact z, fun Γ σ κ H env Q Q' hK I q k => ?_⟩⟩
  refine fa Γ σ κ H env _ _ hK I q fun v κ1 H1 r1 e1 x1 I1 h1 q1 => ?_
  cases e' : rv r1 e1 with
  | none => rw [e'] at q1; exact q1.elim
  | some d =>
    rw [e'] at q1
    cases d with
    | exc c ns ds =>
      simp only at q1
      obtain ⟨hc, q1⟩ := q1
      have rt : Rep Γ.K Γ.cls κ1 H1 v (.exc c ns ds) := rv_ok I1 h1 e'
      obtain ⟨a, d, vs, rfl, ha, hd, ed, rl⟩ := rep_exc rt
      cases e3 : xlk n ns ds with
      | none => rw [e3] at q1; exact q1.elim
      | some y =>
        rw [e3] at q1
        obtain ⟨F, hno⟩ := hx c hc
        obtain ⟨u, hu, ru⟩ := PR.lookup (PR.rev (PR.zip rl)) e3
        rcases ed with ⟨_, rfl⟩ | ⟨dd, rfl, z2, z3⟩
        · simp [xlk] at e3
        · rw [hK.c] at ha
          exact ⟨a, _, dd, _, u, rfl, ha, ⟨F.hg, F.hk, F.hs, F.hd⟩, hno, z3, hu, k _ κ1 H1 (.d y) e1 x1 I1 ru q1⟩
    | _ => exact q1.elim
end
end Pu
set_option maxRecDepth 100000
set_option maxHeartbeats 4000000
/-! an own exception's __init__; tables of classes -/
namespace Pu
open PySem L2 PySem.Spec PyProof.Rows
section
variable {K : PySem.W.Frag} {C : Addr} {vs : List V} {H : Hp} {Q : VK} {E : XK}
theorem spI_len {ns : List Str} {n : Nat} (h : spI C ns vs H Q E) (e : ns.length + 1 = n) : vs.length = n := by
  obtain ⟨a, ws, rfl, hl, _⟩ := h
  rw [List.length_cons, hl, e]
theorem init1 {f n0 n1 : Str} (T : OexC K C) (hno : PySem.W.findIn K (.ref C) f = some none) (vs : List V) (H : Hp) (Q : VK) (E : XK) (h : spI C [f] vs H Q E) :
    L2.tSeq (L2.tDrop (tVeI K (L2.tCons (tVar 0) (L2.tCons (tVar 1) L2.tNil)))) (tOst K f (tVar 0) (tVar 1)) { nx := fun _ H' => Q .non H', rt := Q } (L2.start [n0, n1] vs) H := by
  obtain ⟨a, ws, rfl, hl, _, ha, k⟩ := h
  match ws, hl with
  | [v], _ => exact ⟨_, rfl, _, rfl, a, C, [v], rfl, (by decide : (1 : Nat) ≤ 1000), T, ha, _, rfl, _, rfl, a, C, rfl, T, hno, .inl ⟨ha, fun dx n ne => k dx n ne⟩⟩
theorem init2 {f g n0 n1 n2 : Str} (T : OexC K C) (hf : PySem.W.findIn K (.ref C) f = some none) (hg : PySem.W.findIn K (.ref C) g = some none) (vs : List V) (H : Hp) (Q : VK) (E : XK) (h : spI C [f, g] vs H Q E) :
    L2.tSeq (L2.tDrop (tVeI K (L2.tCons (tVar 0) (L2.tCons (tVar 1) (L2.tCons (tVar 2) L2.tNil))))) (L2.tSeq (tOst K f (tVar 0) (tVar 1)) (tOst K g (tVar 0) (tVar 2))) { nx := fun _ H' => Q .non H', rt := Q } (L2.start [n0, n1, n2] vs) H := by
  obtain ⟨a, ws, rfl, hl, _, ha, k⟩ := h
  match ws, hl with
  | [v, u], _ =>
    refine ⟨_, rfl, _, rfl, _, rfl, a, C, [v, u], rfl, (by decide : (2 : Nat) ≤ 1000), T, ha, _, rfl, _, rfl, a, C, rfl, T, hf, .inl ⟨ha, fun dx n ne => ?_⟩⟩
    refine ⟨_, rfl, _, rfl, a, C, rfl, T, hg, .inr ⟨dx, [(f, v)], upd_same, by rw [upd_ne ne, upd_same], (by decide : (1 : Nat) ≤ 900), ?_⟩⟩
    have z := k dx n ne
    have e : upd (upd H dx (exd dx (([f, g].zip [v, u]).reverse))) a (exo a C (some dx)) = upd (upd (upd H dx (exd dx [(f, v)])) a (exo a C (some dx))) dx (exd dx ((g, u) :: [(f, v)])) := by
      funext b
      by_cases hb : b = dx
      · subst hb
        rw [upd_ne ne, upd_same, upd_same]
        rfl
      · rw [upd_ne hb]
        by_cases ha : b = a
        · subst ha; rw [upd_same, upd_same]
        · rw [upd_ne ha, upd_ne ha, upd_ne hb, upd_ne hb]
    show Q .non _
    rw [← e]
    exact z
end
theorem kA_nil {K : PySem.W.Frag} {t : Value} : PySem.W.kitAny K t [] = some false := rfl
theorem kA_f {K : PySem.W.Frag} {t c : Value} {r : List Value} {b : Bool} (h : PySem.W.kitOne K t c = some false) (q : PySem.W.kitAny K t r = some b) : PySem.W.kitAny K t (c :: r) = some b := by
  unfold PySem.W.kitAny
  rw [h]
  exact q
theorem kA_t {K : PySem.W.Frag} {t c : Value} {r : List Value} (h : PySem.W.kitOne K t c = some true) : PySem.W.kitAny K t (c :: r) = some true := by
  unfold PySem.W.kitAny
  rw [h]
theorem kitOne_self {K : PySem.W.Frag} {t : Value} : PySem.W.kitOne K t t = some true := by
  unfold PySem.W.kitOne
  rw [if_pos (beq_self_eq_true _)]
theorem kitOne_mk {K : PySem.W.Frag} {t : Value} {C : Addr} {b : Bool} (ne : (t == Value.ref C) = false) (h1 : PySem.W.isClsIn K C = true) (h2 : PySem.W.typeIn K (.ref C) = some (.type "type")) (h3 : PySem.W.subIn K t (.ref C) = some b) : PySem.W.kitOne K t (.ref C) = some b := by
  have h1' : (PySem.W.clsIn K C).isSome = true := h1
  unfold PySem.W.kitOne PySem.W.kitCls
  rw [ne, if_neg Bool.false_ne_true]
  simp only
  rw [h1', h2]
  exact (if_pos (by simp)).trans h3
theorem kitOne_bi {K : PySem.W.Frag} {C : Addr} {T : String} {b : Bool} (h : PySem.W.kitMeta T = true) (h3 : PySem.W.subIn K (.ref C) (.type T) = some b) : PySem.W.kitOne K (.ref C) (.type T) = some b := by
  unfold PySem.W.kitOne PySem.W.kitCls
  rw [show (Value.ref C == Value.type T) = false from rfl, if_neg Bool.false_ne_true]
  simp only
  rw [if_pos h]
  exact h3
/-- tables by number -/
def tbl (bs : List Bool) : Nat → Option Bool := fun c => bs[c]?
def cbl (n : Nat) : Nat → Bool := fun c => decide (c < n)
theorem tbl_nil {P : Nat → Bool → Prop} : ∀ c b, tbl [] c = some b → P c b := fun c b h => by cases h
theorem tbl_cons {P : Nat → Bool → Prop} {b0 : Bool} {bs : List Bool} (h0 : P 0 b0) (h : ∀ c b, tbl bs c = some b → P (c + 1) b) : ∀ c b, tbl (b0 :: bs) c = some b → P c b
  | 0, b, e => by cases e; exact h0
  | c + 1, b, e => h c b e
theorem cbl_zero {P : Nat → Prop} : ∀ c, cbl 0 c = true → P c := fun c h => absurd (of_decide_eq_true h) (Nat.not_lt_zero _)
theorem cbl_succ {P : Nat → Prop} {n : Nat} (h0 : P 0) (h : ∀ c, cbl n c = true → P (c + 1)) : ∀ c, cbl (n + 1) c = true → P c
  | 0, _ => h0
  | c + 1, e => h c (decide_eq_true (Nat.lt_of_succ_lt_succ (of_decide_eq_true e)))
end Pu
set_option maxRecDepth 100000
set_option maxHeartbeats 4000000
/-! exceptions made as values; classes without an __init__ of their own -/
namespace Pu
open PySem L2 PySem.Spec PyProof.Rows
section
variable {X : Cx} {o e : Expr} {es : List Expr} {to te : TE} {ta : TA} {f : Str} {p p' p1 p2 pos : Pos}
/-- C(e, ..) as a value, C's own __init__ keeping sp -/
def tMkV (C : Addr) (sp : Sp) (ta : TA) : TE := fun σ H Q => ta σ H fun vs H1 => vs.length ≤ 1000 ∧ ∀ a, H1 a = none → sp (.ref a :: vs) (upd H1 a (exo a C none))
  (fun v H2 => v = .non ∧ ∃ (d : Addr) (fs : List (Str × V)), H2 a = some (exo a C (some d)) ∧ H2 d = some (exd d fs) ∧ H1 d = none ∧ Q (.ref a) (upd (upd H2 a (exT a C (some d))) d (.xd fs))) (fun _ _ _ => False)
theorem pe_mkV {x : Str} {C fI : Addr} {k : Nat} {fd : FuncData} {ps : List Str} {sp : Sp} (T : OexC X.K C) (iC : PySem.W.findIn X.K (.ref C) "__init__" = some (some (.ref fI))) (tI : PySem.W.typeIn X.K (.ref fI) = some (.type "function"))
    (F1 : FnOk X.prog X.w X.K X.mg X.base CX0 k fI fd ps sp) (hr : Room (k + 1) X.A) (hb : Binds X.K fd ps []) (hg : Gl X x) (hm : X.mg x = some (.ref C)) (ha : PA X (e :: es) ta)
    (hdb : (x == ("__debug__" : Str)) = false := by decide) (he : starEach (e :: es) X.env = (false, eval e X.env) :: starEach es X.env := by rfl) (hpl : (backTo pos (starEach es X.env)).any (·.1) = false := by rfl) :
    PE X (.Call (.Name x p) (e :: es) [] pos) (tMkV C sp ta) := by
  refine ⟨fun pins s σ H Q I h => ?_⟩
  obtain ⟨nm, q, N, bs, bm, sn, sub, ab, col, dd, k0, k1, k2, k3, k5, hC, hbm⟩ := T.cls
  refine wpAny_Call_Name_kw (ld_glob I hg hm ?_ hdb)
  refine PySem.W.callWith_K (h₀ := X.base) I.ok.mod.kin T.kC (thn (ha.run pos pins s σ H _ I h) fun us s1 ⟨vs, H1, I1, r1, hz, q1⟩ => ⟨I1.kIn, ?_⟩) he hpl
  show wpAny _ _ (call (.ref C) us) _ _ _
  obtain ⟨hp, g, dr, tk, os⟩ := s1
  have hsz : hp.objs.size ≤ hp.objs.size + 1 := Nat.le_succ _
  have hn : H1 (hp.objs.size + 1) = none := I1.hok.fresh hsz
  have hq := q1 (hp.objs.size + 1) hn
  have kk : ∀ b o, hp.get? b = some o → ((hp.push (PySem.W.kdv_tup us)).push (PySem.HandSPX.excO C hp.objs.size)).get? b = some o := fun b o e => Heap.get?_push_of_some _ (Heap.get?_push_of_some _ e)
  have hget : ((hp.push (PySem.W.kdv_tup us)).push (PySem.HandSPX.excO C hp.objs.size)).get? (hp.objs.size + 1) = some (PySem.HandSPX.excO C hp.objs.size) := by heap_get
  have I2 : Inv X pins σ (upd H1 (hp.objs.size + 1) (exo (hp.objs.size + 1) C none)) ⟨(hp.push (PySem.W.kdv_tup us)).push (PySem.HandSPX.excO C hp.objs.size), g, dr, tk, os⟩ :=
    I1.laid (t' := tk) (a := hp.objs.size + 1) (o := exo (hp.objs.size + 1) C none) (h' := (hp.push (PySem.W.kdv_tup us)).push (PySem.HandSPX.excO C hp.objs.size)) kk hsz (exo_ok hget)
  have r2 : Vals (V.ref (hp.objs.size + 1) :: vs) (Value.ref (hp.objs.size + 1) :: us) := .cons rfl r1
  have hl : (Value.ref (hp.objs.size + 1) :: us).length = ps.length := by
    have e := r2.length
    rw [F1.len _ _ _ _ hq] at e
    exact e.symm
  have hus : us.length ≤ sizeLine := by
    rw [← Paired.length r1, sizeLine_eq]
    omega
  have bnd := hb _ (Value.ref (hp.objs.size + 1) :: us) I2.kIn (by rw [List.append_nil]; exact hl)
  rw [List.append_nil] at bnd
  refine wpAny_call (PySem.HandSPX.call_own F.excBase_ValueError (fun Y => PySem.HandSPX.refsVE_contains Y bm hbm) (I1.kIn _ _ hC) (PySem.W.looks_findIn I1.kIn iC) (fun self => PySem.W.bind_fn I1.kIn self tI) hus
    (codeAny_mono (F1.run _ X.stack _ _ ⟨Value.ref (hp.objs.size + 1) :: us, []⟩ (Value.ref (hp.objs.size + 1) :: us) _ _ (fun _ _ _ => False) (hr.make C us []) (I2.env0.make C us []) bnd r2 hq) fun r s' hq' => ?_))
  cases r with
  | error er => exact pass0 pins σ _ _ er s' I2 hq'
  | ok fl =>
    cases fl with
    | ret u =>
      obtain ⟨v, H2, os2, bare2, un2, hok2, rv, ev, d, fs, ea, ed, hd1, q2⟩ := hq'
      subst ev
      have J : Inv X pins σ H2 s' := I2.call' (ch := []) os2 un2 hok2 bare2 (fun b z => absurd z (by simp))
      obtain ⟨t0, hoe⟩ := exo_at J.hok ea
      obtain ⟨mA, hns, rel⟩ := exd_at J.hok ed
      have hda : d ≠ hp.objs.size + 1 := fun z => by
        obtain ⟨o, es, ep, e1, e2, _⟩ := hns
        rw [z, hoe] at e1
        have z2 := Option.some.inj e1
        subst z2
        cases e2
      obtain ⟨h2, g2, d2, t2, os'⟩ := s'
      have J1 : Inv X pins σ (upd H2 (hp.objs.size + 1) (exT (hp.objs.size + 1) C (some d))) ⟨h2, g2, d2, t2, os'⟩ :=
        J.write (t' := t2) (x := hp.objs.size + 1) (e := hp.objs.size + 1) (by rw [ea]; exact True.intro) (.inl rfl) (fun _ _ _ z => z) ⟨_, hoe⟩ (exT_ok hoe ⟨rfl, rfl⟩ rfl)
      have ed1 : upd H2 (hp.objs.size + 1) (exT (hp.objs.size + 1) C (some d)) d = some (exd d fs) := by rw [upd_ne hda]; exact ed
      have J2 : Inv X pins σ (upd (upd H2 (hp.objs.size + 1) (exT (hp.objs.size + 1) C (some d))) d (.xd fs)) ⟨h2, g2, d2, t2, os'⟩ :=
        J1.write (t' := t2) (x := d) (e := d) (o := .xd fs) (by rw [ed1]; exact True.intro) (.inl rfl) (fun _ _ _ z => z) (by obtain ⟨o, _, _, e1, _⟩ := hns; exact ⟨o, e1⟩) ⟨mA, hns, rel⟩
      exact ⟨rv, .ref (hp.objs.size + 1), _, J2, rfl, q2⟩
    | next => exact False.elim hq'
    | brk => exact False.elim hq'
    | cont => exact False.elim hq'
/-- C(), C without an __init__ of its own -/
theorem pe_mk0 {C : Addr} {bmB : List Value} {B newId initId : String} {x : Str} (F : ExcBaseFacts B newId initId bmB) (q : PySem.W.excIn X.K C bmB newId = true) (gC : X.mg x = some (.ref C)) (kC : PySem.W.keepIn X.K (.ref C) = true) (hg : Gl X x)
    (hdb : (x == ("__debug__" : Str)) = false := by decide) :
    PE X (.Call (.Name x p) [] [] pos) (fun σ H Q => ∀ a, H a = none → Q (.ref a) (upd H a (exT a C none))) := by
  refine ⟨fun pins s σ H Q I h => ?_⟩
  refine wpAny_Call_Name_kw (ld_glob I hg gC ?_ hdb)
  refine PySem.W.callWith_K0 I.kIn kC ?_
  show wpAny _ _ (call (.ref C) []) _ _ _
  obtain ⟨bm, N, nm, qn, bs, hdct, sn, sub, ab, col, dd, k0, k1, k2, k3, k5, mN, hC, hN, hni, T⟩ := exc_obj I.kIn q
  refine wpAny_call_exc_subT F T hC hN hni (fun h' a hm => ?_) (by show 0 ≤ sizeLine; omega)
  have hn : H a = none := I.hok.gone hm.new
  obtain ⟨t, ht, _, _⟩ := hm.there
  exact ⟨.ref a, upd H a (exT a C none), I.laidN hm.keeps hm.new hn (exT_ok ht ⟨rfl, rfl⟩ rfl), rfl, h a hn⟩
theorem pmk0 {C : Addr} {bmB : List Value} {B newId initId : String} {x : Str} (F : ExcBaseFacts B newId initId bmB) (q : PySem.W.excIn X.K C bmB newId = true) (gC : X.mg x = some (.ref C)) (kC : PySem.W.keepIn X.K (.ref C) = true) (r : Raises X (.ref C)) (hg : Gl X x)
    (hdb : (x == ("__debug__" : Str)) = false := by decide) : PMk X (.Call (.Name x p) [] [] pos) (fun _ H Q => Q (.ref C) none H) := by
  intro pins s σ H Q I h
  refine wpAny_Call_Name_kw (ld_glob I hg gC ?_ hdb)
  refine PySem.W.callWith_K0 I.kIn kC ?_
  show wpAny _ _ (call (.ref C) []) _ _ _
  obtain ⟨bm, N, nm, qn, bs, hdct, sn, sub, ab, col, dd, k0, k1, k2, k3, k5, mN, hC, hN, hni, T⟩ := exc_obj I.kIn q
  refine wpAny_call_exc_subT F T hC hN hni (fun h' e hm => ?_) (by show 0 ≤ sizeLine; omega)
  exact mk_of I hm r h (I.hok.gone hm.new)
end
section
variable {Γ Γ' : Gm} {κ κ' : Ka} {H H' : Hp} {env env' : En} {σ : Sl} {v : V} {st : Sto} {Y : Fam} {a b e : Expr} {es : List Expr} {ta tb te : PTE} {pos : Pos}
/-- C(e, ..) as a value -/
def tMkX (c : Nat) (ns : List Str) (t : PTA) : PTE := fun x e Q => t x e fun ds e1 => ds.length = ns.length ∧ Q (.d (.exc c ns ds)) e1
theorem ve_mkX {c k : Nat} {ns : List Str} {x : Str} {p : Pos} {fI : Addr} {fd : FuncData} {ps : List Str} {t : PTA} (T : OexC Y.K (Y.cls c)) (iC : PySem.W.findIn Y.K (.ref (Y.cls c)) "__init__" = some (some (.ref fI))) (tI : PySem.W.typeIn Y.K (.ref fI) = some (.type "function"))
    (F1 : ∀ i, FnOk (Y.X i).prog (Y.X i).w (Y.X i).K (Y.X i).mg (Y.X i).base CX0 k fI fd ps (spI (Y.cls c) ns)) (hr : ∀ i, Room (k + 1) (Y.X i).A) (hb : Binds Y.K fd ps []) (hm : ∀ i, (Y.X i).mg x = some (.ref (Y.cls c))) (hl : ns.length ≤ 900) (h0 : ns ≠ []) (ha : VA Y (e :: es) t)
    (hg : ∀ i, Gl (Y.X i) x := by intro _; rfl) (hdb : (x == ("__debug__" : Str)) = false := by decide) (he : ∀ X : Cx, starEach (e :: es) X.env = (false, eval e X.env) :: starEach es X.env := by intro _; rfl) (hpl : ∀ X : Cx, (backTo pos (starEach es X.env)).any (·.1) = false := by intro _; rfl) :
    VE Y (.Call (.Name x p) (e :: es) [] pos) (tMkX c ns t) := by
  obtain ⟨ra, pa, fa⟩ := ha.ex
  refine ⟨⟨fun E => tMkV (Y.cls c) (spI (Y.cls c) ns) (ra E), fun i => pe_mkV (by rw [Y.hK i]; exact T) (by rw [Y.hK i]; exact iC) (by rw [Y.hK i]; exact tI) (F1 i) (hr i) (by rw [Y.hK i]; exact hb) (hg i) (hm i) (pa i) hdb (he _) (hpl _), fun Γ σ κ H env Q Q' hK I q kk => ?_⟩⟩
  refine fa Γ σ κ H env _ _ hK I q fun vs κ1 H1 ds e1 x1 I1 h1 q1 => ?_
  have lv : vs.length = ns.length := h1.length.trans q1.1
  refine ⟨by omega, fun a na => ⟨a, vs, rfl, lv, h0, upd_same, fun dx hdx ne => ?_⟩⟩
  have n1 : H1 dx = none := by rw [upd_ne ne] at hdx; exact hdx
  refine ⟨rfl, dx, _, upd_same, by rw [upd_ne ne, upd_same], n1, ?_⟩
  have eq : ∀ o o1 o2 o3 o4 : HO, upd (upd (upd (upd (upd H1 a o1) dx o2) a o3) a o4) dx o = upd (upd H1 a o4) dx o := fun o o1 o2 o3 o4 => by
    funext z
    by_cases hz : z = dx
    · rw [hz, upd_same, upd_same]
    · rw [upd_ne hz, upd_ne hz]
      by_cases hza : z = a
      · rw [hza, upd_same, upd_same]
      · rw [upd_ne hza, upd_ne hza, upd_ne hza, upd_ne hz, upd_ne hza]
  rw [eq]
  have J1 := I1.upd_new (o := exT a (Γ.cls c) (some dx)) na
  have J2 := J1.put_frz (a := a) (I1.gh.nokap na) (I1.gh.nokap0 na) (by rw [upd_same]; simp) (fun i hs => I1.fresh na i hs)
  have x2 : Ext κ1 H1 (put κ1 a .frz) (upd H1 a (exT a (Γ.cls c) (some dx))) := (Ext.upd_new I1.gh na).trans (Ext.put (I1.gh.nokap na))
  have n2 : upd H1 a (exT a (Γ.cls c) (some dx)) dx = none := by rw [upd_ne ne]; exact n1
  have J3 := J2.upd_new (o := .xd (ns.zip vs).reverse) n2
  have J4 := J3.put_frz (a := dx) (J2.gh.nokap n2) (J2.gh.nokap0 n2) (by rw [upd_same]; simp) (fun i hs => J2.fresh n2 i hs)
  have x3 : Ext (put κ1 a .frz) (upd H1 a (exT a (Γ.cls c) (some dx))) (put (put κ1 a .frz) dx .frz) (upd (upd H1 a (exT a (Γ.cls c) (some dx))) dx (.xd (ns.zip vs).reverse)) := (Ext.upd_new J2.gh n2).trans (Ext.put (J2.gh.nokap n2))
  have rep : Rep Γ.K Γ.cls (put (put κ1 a .frz) dx .frz) (upd (upd H1 a (exT a (Γ.cls c) (some dx))) dx (.xd (ns.zip vs).reverse)) (.ref a) (.exc c ns ds) :=
    .exc (x3.1 _ _ put_same) ((x3.2 _ put_same).trans upd_same) (.inr ⟨dx, rfl, put_same, upd_same⟩) (RepL.mono (x2.trans x3) h1)
  have z := kk (.ref a) _ _ (.d (.exc c ns ds)) e1 (x1.trans (x2.trans x3)) J4 rep q1.2
  rw [hK.c] at z
  exact z
def tMk0 (c : Nat) : PTE := fun _ e Q => Q (.d (.exc c [] [])) e
abbrev veT : List Value := [.type "ValueError", .type "Exception", .type "BaseException", .type "object"]
theorem ve_mk0 {c : Nat} {x : Str} {p : Pos} (q : PySem.W.excIn Y.K (Y.cls c) veT "ValueError.__new__" = true) (kC : PySem.W.keepIn Y.K (.ref (Y.cls c)) = true) (hm : ∀ i, (Y.X i).mg x = some (.ref (Y.cls c)))
    (hg : ∀ i, Gl (Y.X i) x := by intro _; rfl) (hdb : (x == ("__debug__" : Str)) = false := by decide) : VE Y (.Call (.Name x p) [] [] pos) (tMk0 c) := by
  refine ⟨⟨fun _ => fun σ H Q => ∀ a, H a = none → Q (.ref a) (upd H a (exT a (Y.cls c) none)), fun i => pe_mk0 F.excBase_ValueError (by rw [Y.hK i]; exact q) (hm i) (by rw [Y.hK i]; exact kC) (hg i) hdb, fun Γ σ κ H env Q Q' hK I q kk => ?_⟩⟩
  intro a na
  have J1 := I.upd_new (o := exT a (Γ.cls c) none) na
  have J2 := J1.put_frz (a := a) (I.gh.nokap na) (I.gh.nokap0 na) (by rw [upd_same]; simp) (fun i hs => I.fresh na i hs)
  have x2 : Ext κ H (put κ a .frz) (upd H a (exT a (Γ.cls c) none)) := (Ext.upd_new I.gh na).trans (Ext.put (I.gh.nokap na))
  have z := kk (.ref a) _ _ (.d (.exc c [] [])) env x2 J2 (.exc put_same upd_same (.inl ⟨rfl, rfl⟩) .nil) q
  rw [hK.c] at z
  exact z
def sRaise0 (c : Nat) : PTS := fun x D e => x ⟨c, []⟩ e.st
theorem vs_raise0 {c : Nat} {x : Str} {p pos2 : Pos} (hcalm : ∀ i, (Y.X i).calm = true) (tk : Tks Y) (q : PySem.W.excIn Y.K (Y.cls c) veT "ValueError.__new__" = true) (kC : PySem.W.keepIn Y.K (.ref (Y.cls c)) = true) (hs : PySem.W.subIn Y.K (.ref (Y.cls c)) (.type "BaseException") = some true)
    (ht : PySem.W.typeIn Y.K (.ref (Y.cls c)) = some (.type "type")) (hm : ∀ i, (Y.X i).mg x = some (.ref (Y.cls c))) (hn : Y.flds c = []) (hg : ∀ i, Gl (Y.X i) x := by intro _; rfl) (hdb : (x == ("__debug__" : Str)) = false := by decide) :
    VS Y (.Raise (some (.Call (.Name x p) [] [] pos)) none pos2) (sRaise0 c) := by
  refine ⟨⟨fun E _ σ H => E (.ref (Y.cls c)) none H, fun i => ps_raise (W := fun cls d _ H => Y.E i cls d H) (hcalm i) (tk i)
    (pmk0 F.excBase_ValueError (by rw [Y.hK i]; exact q) (hm i) (by rw [Y.hK i]; exact kC) (raises_own (by rw [Y.hK i]; exact hs) (by rw [Y.hK i]; exact ht)) (hg i) hdb), fun Γ σ κ H env D D' hK I q l => ?_⟩⟩
  rw [← hK.c]
  exact hK.x κ H env.st c [] [] none I.gh q .nil (.inl ⟨rfl, by rw [hK.f]; exact hn⟩)
end
/-- tables of truths -/
def cbT (bs : List Bool) : Nat → Bool := fun c => bs.getD c false
theorem cbT_nil {P : Nat → Prop} : ∀ c, cbT [] c = true → P c := fun c h => by cases h
theorem cbT_t {P : Nat → Prop} {bs : List Bool} (h0 : P 0) (h : ∀ c, cbT bs c = true → P (c + 1)) : ∀ c, cbT (true :: bs) c = true → P c
  | 0, _ => h0
  | c + 1, e => h c e
theorem cbT_f {P : Nat → Prop} {bs : List Bool} (h : ∀ c, cbT bs c = true → P (c + 1)) : ∀ c, cbT (false :: bs) c = true → P c
  | 0, e => by cases e
  | c + 1, e => h c e
end Pu
set_option maxRecDepth 100000
set_option maxHeartbeats 4000000
namespace Pu
open PySem L2
/-! ### loops and comprehensions, purely -/
theorem forR_inv {g : PTG} {tb : PTS} {x : PX} {P : PEn} (I : List D → En → Prop) (h : ∀ d r e, I (d :: r) e → ∀ N : En → Prop, (∀ e', I r e' → N e') → g d e fun e' => tb x { P with nx := N, ct := N, bk := P.nx } e') (hd : ∀ e, I [] e → P.nx e) :
    ∀ (ds : List D) (e : En), I ds e → forR g tb x P ds e
  | [], e, hi => hd e hi
  | d :: r, e, hi => h d r e hi (forR g tb x P r) fun e' hi' => forR_inv I h hd r e' hi'
/-- all related, one by one -/
inductive All2 {α β : Type} (R : α → β → Prop) : List α → List β → Prop
  | nil : All2 R [] []
  | cons {a : α} {b : β} {as : List α} {bs : List β} : R a b → All2 R as bs → All2 R (a :: as) (b :: bs)
theorem All2.length {α β : Type} {R : α → β → Prop} : ∀ {as : List α} {bs : List β}, All2 R as bs → bs.length = as.length
  | _, _, .nil => rfl
  | _, _, .cons _ h => by simp [h.length]
theorem lcR_rel {g : PTG} {te : PTE} {vs : List Nat} {e : En} {Q : List D → En → Prop} (R : D → D → Prop) :
    ∀ (ds acc : List D), (∀ d ∈ ds, ∀ K : D → En → Prop, (∀ y, R d y → K y e) → g d e fun e1 => te noX e1 fun r e3 => fz r e3 fun y e4 => K y (wipeE vs e4)) → (∀ ys, All2 R ds ys → Q (acc ++ ys) e) → lcR g cYes te vs ds acc e Q
  | [], acc, _, k => by have := k [] .nil; rw [List.append_nil] at this; exact this
  | d :: ds, acc, h, k => by
    refine h d (by simp) (fun y e' => lcR g cYes te vs ds (acc ++ [y]) e' Q) fun y r => ?_
    exact lcR_rel R ds (acc ++ [y]) (fun d' hd => h d' (List.mem_cons_of_mem _ hd)) fun ys hy => by
      have := k (y :: ys) (.cons r hy)
      rw [List.append_assoc]
      exact this
theorem lcR_map {g : PTG} {te : PTE} {vs : List Nat} {e : En} {Q : List D → En → Prop} (f : D → D) :
    ∀ (ds acc : List D), (∀ d ∈ ds, ∀ K : D → En → Prop, K (f d) e → g d e fun e1 => te noX e1 fun r e3 => fz r e3 fun y e4 => K y (wipeE vs e4)) → Q (acc ++ ds.map f) e → lcR g cYes te vs ds acc e Q
  | [], acc, _, k => by rw [List.map_nil, List.append_nil] at k; exact k
  | d :: ds, acc, h, k => by
    refine h d (by simp) (fun y e' => lcR g cYes te vs ds (acc ++ [y]) e' Q) ?_
    exact lcR_map f ds (acc ++ [f d]) (fun d' hd => h d' (List.mem_cons_of_mem _ hd)) (by rw [List.append_assoc]; exact k)
/-- with one test -/
theorem lcR_filter {g : PTG} {tt : PTT} {te : PTE} {vs : List Nat} {e : En} {Q : List D → En → Prop} (p : D → Bool) (f : D → D) :
    ∀ (ds acc : List D), (∀ d ∈ ds, ∀ K : Option D → En → Prop, K (if p d = true then some (f d) else none) e → g d e fun e1 => tt noX e1 fun b e2 => if b = true then te noX e2 fun r e3 => fz r e3 fun y e4 => K (some y) (wipeE vs e4) else K none (wipeE vs e2)) →
      Q (acc ++ (ds.filter p).map f) e → lcR g tt te vs ds acc e Q
  | [], acc, _, k => by rw [List.filter_nil, List.map_nil, List.append_nil] at k; exact k
  | d :: ds, acc, h, k => by
    refine h d (by simp) (fun o e' => match o with | some y => lcR g tt te vs ds (acc ++ [y]) e' Q | none => lcR g tt te vs ds acc e' Q) ?_
    by_cases hp : p d = true
    · rw [if_pos hp]
      refine lcR_filter p f ds (acc ++ [f d]) (fun d' hd => h d' (List.mem_cons_of_mem _ hd)) ?_
      rw [List.filter_cons_of_pos hp, List.map_cons] at k
      rw [List.append_assoc]
      exact k
    · rw [if_neg hp]
      refine lcR_filter p f ds acc (fun d' hd => h d' (List.mem_cons_of_mem _ hd)) ?_
      rw [List.filter_cons_of_neg hp] at k
      exact k
theorem rngI_length (lo : Int) (n : Nat) : (rngI lo n).length = n := by unfold rngI; simp
theorem rngI_mem {lo : Int} {n : Nat} {d : D} (h : d ∈ rngI lo n) : ∃ i : Nat, i < n ∧ d = .int (lo + i) := by
  unfold rngI at h
  obtain ⟨i, hi, rfl⟩ := List.mem_map.mp h
  exact ⟨i, List.mem_range.mp hi, rfl⟩
theorem rngI_succ (lo : Int) (n : Nat) : rngI lo (n + 1) = .int lo :: rngI (lo + 1) n := by
  unfold rngI
  rw [List.range_succ_eq_map, List.map_cons, List.map_map]
  congr 1
  · simp
  · apply List.map_congr_left
    intro i _
    simp only [Function.comp, D.int.injEq]
    omega
theorem line_eq : (sizeLine : Nat) = 16777216 := sizeLine_eq
theorem strL_map (r : List (List Nat)) : strL (r.map D.str) = some r := by
  induction r with
  | nil => rfl
  | cons x r ih => simp only [List.map_cons, strL, ih]
theorem blL_map (r : List Bool) : blL (r.map D.bl) = some r := by
  induction r with
  | nil => rfl
  | cons x r ih => simp only [List.map_cons, blL, ih]
theorem joinN_nil (r : List (List Nat)) : joinN [] r = r.flatten := by
  induction r with
  | nil => rfl
  | cons x r ih =>
    cases r with
    | nil => simp [joinN]
    | cons y r => simp only [joinN, List.nil_append, ih, List.flatten_cons]
theorem joinN_signs (w : List Nat) : joinN [] (w.map fun c => [c]) = w := by
  rw [joinN_nil]
  induction w with
  | nil => rfl
  | cons c w ih => simp [ih]
theorem atI_nat' {α : Type} {xs : List α} {j : Nat} (h : j < xs.length) : atI xs (j : Int) = some xs[j] := atI_nat (List.getElem?_eq_getElem h)
theorem okL_map {f : α → D} {n : Nat} {xs : List α} (h : ∀ x ∈ xs, (f x).ok n = true) : D.okL (xs.map f) n = true := by
  induction xs with
  | nil => rfl
  | cons x xs ih =>
    simp only [List.map_cons, D.okL]
    rw [h x (by simp), ih fun y hy => h y (List.mem_cons_of_mem _ hy)]
    rfl
end Pu
set_option maxRecDepth 100000
set_option maxHeartbeats 4000000
namespace Pu
open PySem L2 PySem.Spec PyProof.Rows
/-- the law's promise, at its script -/
def spLaw (K : PySem.W.Frag) : Sp := fun vs H Q _ => ∃ (a : Addr) (ns : List Int), vs = [.ref a] ∧ SqL K H a (ns.map V.int) ∧ ns.length ≤ 63 ∧ ∀ H', Q (.bl true) H'
theorem nofrz {k : Kd} {p : Prop} (e : k = .frz) (h : k ≠ .frz := by intro z; cases z) : p := absurd e h
theorem gh_start {K : PySem.W.Frag} {H : Hp} {κ : Ka} {cls : Nat → Addr} {flds : Nat → List Str} {E : XK} {x : PX} (h : ∀ a k, κ a = some k → k = .frz ∧ H a ≠ none) : Gh ⟨K, H, κ, cls, flds, E, x⟩ κ [] H :=
  ⟨fun _ _ e => e, fun _ _ e => .inl e, fun a k e => (h a k e).2, fun _ e => e, fun a e => nofrz (h a _ e).1, fun a k e => nofrz (h a _ e).1, fun a b k e _ => nofrz (h a _ e).1, fun a o e _ => e⟩
theorem script_rep {K : PySem.W.Frag} {H : Hp} {a : Addr} {ns : List Int} {cls : Nat → Addr} (h : SqL K H a (ns.map V.int)) (hl : ns.length ≤ 63) : ∃ κ : Ka, (∀ a k, κ a = some k → k = .frz ∧ H a ≠ none) ∧ Rep K cls κ H (.ref a) (.scr ns.length) := by
  rcases h with h | h
  · refine ⟨fun b => if b = a then some .frz else none, fun b k e => ?_, .scr (.inl ⟨if_pos rfl, h⟩) rfl hl⟩
    have e : (if b = a then some Kd.frz else none) = some k := e
    by_cases hb : b = a
    · rw [if_pos hb] at e
      cases e
      subst hb
      refine ⟨rfl, fun z => ?_⟩
      rcases h with h | ⟨o, h⟩
      · rw [h] at z; cases z
      · rw [h] at z; cases z
    · rw [if_neg hb] at e; cases e
  · exact ⟨fun _ => none, fun a k e => (by cases e), .scr (.inr h) rfl hl⟩
theorem FnG.law {P : Program} {w : World} {K : PySem.W.Frag} {mg : Str → Option Value} {base : Heap} {ps : List Str} {f : Addr} {fd : FuncData} {k : Nat} {cls : Nat → Addr} {flds : Nat → List Str} {m : PM}
    (hm : ∀ n s Q, n ≤ 63 → Q (.d (.bl true)) s → m [.scr n] s Q) (F : FnG P w K mg base CX0 k f fd ps (sp0 K cls flds m)) : FnG P w K mg base CX0 k f fd ps (spLaw K) :=
  F.imp fun vs H Q E ⟨a, ns, e, hS, hl, q⟩ => by
    subst e
    obtain ⟨κ, hκ, hr⟩ := script_rep (cls := cls) hS hl
    refine ⟨κ, [.scr ns.length], [], fun c _ => c = .d (.bl true), gh_start hκ, .cons hr .nil, hm _ _ _ hl rfl, fun v κ' H' c st' g r e => ?_⟩
    subst e
    have r : Rep K cls κ' H' v (.bl true) := r
    cases r
    exact q H'
theorem walk {l : PySem.W.OpenLaw} {q : Program} {loose : List Str} {XP : (Str → Option Value) → Heap → Prop} {YP : World → Heap → Prop} {d : DefRec} {K : Params → PySem.W.Frag} {k : Nat} (hr : Room k callerA) (hn : l.most = some 63) (hdf : d.params.defaults = [])
    (hY : ∀ (w : World) (h : Heap), YP w h → (K w.params).In h)
    (F : ∀ (w : World) (mg : Str → Option Value) (fa : Addr) (h : Heap), (K w.params).In h → h.Ns mainGlobals mg → mg d.name = some (.ref fa) →
      ∃ fd : FuncData, (∀ (s : Shared) (u : Value), BindsTo s fd ⟨[u], []⟩ [("_law_script", u)]) ∧ ∀ base : Heap, (K w.params).In base → base.Ns mainGlobals mg → FnG l.prog w (K w.params) mg base CX0 k fa fd ["_law_script"] (spLaw (K w.params))) :
    PySem.W.WalkO q loose XP YP l.row.toRowW d [] (fun f vs => PySem.call f vs) :=
  walkG (sp := spLaw) hr hn hdf hY F fun _ _ a ns hl hS => ⟨a, ns, rfl, hS, hl, fun _ => rfl⟩
end Pu
set_option maxRecDepth 100000
set_option maxHeartbeats 4000000
namespace Pu
open PySem L2
/-- what rewriting shall not enter -/
structure Hid {β : Type} (b : β) : Type where
abbrev hid {β : Type} {b : β} : Hid b := ⟨⟩
/-! ### stepping by rewriting -/
def opt {α : Type} {f : α → Prop} (o : Option α) (_ : Hid f) : Prop := match o with
  | some a => f a
  | none => False
theorem opt_some {α : Type} (a : α) (f : α → Prop) : opt (some a) (@hid _ f) = f a := rfl
theorem opt_of {α : Type} {o : Option α} {a : α} {f : α → Prop} (h : o = some a) (q : f a) : opt o (@hid _ f) := by rw [h]; exact q
def br {p q : Prop} (b : Bool) (_ : Hid (p, q)) : Prop := if b = true then p else q
theorem br_true (p q : Prop) : br true (@hid _ (p, q)) = p := rfl
theorem br_false (p q : Prop) : br false (@hid _ (p, q)) = q := rfl
theorem br_intro {b : Bool} {p q : Prop} (h1 : b = true → p) (h2 : b = false → q) : br b (@hid _ (p, q)) := by
  cases b
  · exact h2 rfl
  · exact h1 rfl
theorem br_pos {b : Bool} {p q : Prop} (h : b = true) (h1 : p) : br b (@hid _ (p, q)) := by rw [h]; exact h1
theorem br_neg {b : Bool} {p q : Prop} (h : b = false) (h1 : q) : br b (@hid _ (p, q)) := by rw [h]; exact h1
def nameC {i : Nat} {e : En} {Q : R → En → Prop} (c : C) (_ : Hid (i, e, Q)) : Prop := match c with
  | .un => False
  | .d d => Q (.d d) e
  | _ => Q (.nam i) e
theorem nameC_d {d i e Q} : nameC (.d d) (@hid _ (i, e, Q)) = Q (.d d) e := rfl
theorem nameC_own {d i e Q} : nameC (.own d) (@hid _ (i, e, Q)) = Q (.nam i) e := rfl
theorem nameC_dK {d i e Q} : nameC (.dK d) (@hid _ (i, e, Q)) = Q (.nam i) e := rfl
theorem nameC_dT {d i e Q} : nameC (.dT d) (@hid _ (i, e, Q)) = Q (.nam i) e := rfl
theorem x_name {i x e Q} : tName i x e Q = (opt e.sl[i]? <| @hid _ fun c => nameC c (@hid _ (i, e, Q))) := by
  unfold tName opt
  cases e.sl[i]? with
  | none => rfl
  | some c => cases c <;> rfl
def fzC {i : Nat} {e : En} {Q : D → En → Prop} (c : C) (_ : Hid (i, e, Q)) : Prop := match c with
  | .d d => Q d e
  | .own ds => Q (.lst ds) (e.setC i (.d (.lst ds)))
  | _ => False
theorem fzC_d {d i e Q} : fzC (.d d) (@hid _ (i, e, Q)) = Q d e := rfl
theorem fzC_own {d i e Q} : fzC (.own d) (@hid _ (i, e, Q)) = Q (.lst d) (e.setC i (.d (.lst d))) := rfl
theorem x_fzn {i e Q} : fz (.nam i) e Q = (opt e.sl[i]? <| @hid _ fun c => fzC c (@hid _ (i, e, Q))) := by
  show (match e.sl[i]? with | some (.d d) => Q d e | some (.own ds) => Q (.lst ds) (e.setC i (.d (.lst ds))) | _ => False) = _
  unfold opt
  cases e.sl[i]? with
  | none => rfl
  | some c => cases c <;> rfl
theorem x_fzd {d e Q} : fz (.d d) e Q = Q d e := rfl
theorem x_fzo {d e Q} : fz (.own d) e Q = Q (.lst d) e := rfl
def rvC : Option C → Option D
  | some (.d d) => some d
  | some (.own ds) => some (.lst ds)
  | _ => none
theorem rvC_d {d} : rvC (some (.d d)) = some d := rfl
theorem rvC_own {d} : rvC (some (.own d)) = some (.lst d) := rfl
theorem x_rvn {i e} : rv (.nam i) e = rvC e.sl[i]? := by
  show (match e.sl[i]? with | some (.d d) => some d | some (.own ds) => some (.lst ds) | _ => none) = _
  unfold rvC
  cases e.sl[i]? with
  | none => rfl
  | some c => cases c <;> rfl
theorem x_rvd {d e} : rv (.d d) e = some d := rfl
theorem x_rvo {d e} : rv (.own d) e = some (.lst d) := rfl
def retC {D : PEn} {e : En} (c : C) (_ : Hid (D, e)) : Prop := match c with
  | .un => False
  | c => D.rt c e
theorem retC_d {D d e} : retC (.d d) (@hid _ (D, e)) = D.rt (.d d) e := rfl
theorem retC_own {D d e} : retC (.own d) (@hid _ (D, e)) = D.rt (.own d) e := rfl
theorem x_retn {D i e} : retR D (.nam i) e = (opt e.sl[i]? <| @hid _ fun c => retC c (@hid _ (D, e))) := by
  unfold retR opt
  simp only
  cases e.sl[i]? with
  | none => rfl
  | some c => cases c <;> rfl
theorem x_retd {D d e} : retR D (.d d) e = D.rt (.d d) e := rfl
theorem x_reto {D d e} : retR D (.own d) e = D.rt (.own d) e := rfl
theorem x_hd {d e Q} : hold (.d d) e Q = Q (.d d) e := rfl
theorem x_ho {d e Q} : hold (.own d) e Q = Q (.d (.lst d)) e := rfl
theorem x_hn {i e Q} : hold (.nam i) e Q = Q (.nam i) e := rfl
theorem x_ad {i d e Q} : asgR i (.d d) e Q = Q (e.setC i (.d d)) := rfl
theorem x_ao {i d e Q} : asgR i (.own d) e Q = Q (e.setC i (.own d)) := rfl
theorem x_an {i j e Q} : asgR i (.nam j) e Q = fz (.nam j) e fun d e1 => Q (e1.setC i (.d d)) := rfl
theorem x_set {l s i c} : En.setC ⟨l, s⟩ i c = ⟨l.set i c, s⟩ := rfl
/-- statements -/
theorem x_seq {t u x D e} : sSeq t u x D e = t x { D with nx := u x D } e := rfl
theorem x_next {x D e} : sNext x D e = D.nx e := rfl
theorem x_break {x D e} : sBreak x D e = D.bk e := rfl
theorem x_cont {x D e} : sCont x D e = D.ct e := rfl
theorem x_drop {t x D e} : sDrop t x D e = t x e fun _ e1 => D.nx e1 := rfl
theorem x_ret {t x D e} : sRet t x D e = t x e fun r e1 => retR D r e1 := rfl
theorem x_retN {x D e} : sRetN x D e = D.rt (.d .non) e := rfl
theorem x_if {c t u x D e} : sIf c t u x D e = c x e fun b e1 => br b (@hid _ ((t x D e1), (u x D e1))) := rfl
theorem x_asg {i t x D e} : sAsg i t x D e = t x e fun r e1 => i < e1.sl.length ∧ asgR i r e1 D.nx := rfl
theorem x_asgG {g t x D e} : sAsgG g t x D e = t x e fun r e1 => fz r e1 fun d e2 => g d e2 D.nx := rfl
def forH {g : PTG} {tb : PTS} {x : PX} {P : PEn} (ds : List D) (e : En) (_ : Hid (g, tb, x, P)) : Prop := forR g tb x P ds e
def whH {c : PTT} {tb : PTS} {x : PX} {P : PEn} (e : En) (_ : Hid (c, tb, x, P)) : Prop := sWhile c tb x P e
theorem x_while {c tb x P e} : sWhile c tb x P e = whH e (@hid _ (c, tb, x, P)) := rfl
def lcH {g : PTG} {tt : PTT} {te : PTE} {vs : List Nat} {Q : List D → En → Prop} (ds : List D) (e : En) (_ : Hid (g, tt, te, vs, Q)) : Prop := lcR g tt te vs ds [] e Q
theorem x_for {ti g tb x D e} : sFor ti g tb x D e = ti x e fun items e1 => forH items e1 (@hid _ (g, tb, x, D)) := rfl
/-- expressions -/
theorem x_2 {ta tb p x e Q} : t2 ta tb p x e Q = ta x e fun r1 e1 => hold r1 e1 fun r1 e1 => tb x e1 fun r2 e2 => opt (rv r1 e2) <| @hid _ fun d1 => opt (rv r2 e2) <| @hid _ fun d2 => p d1 d2 fun r => Q r e2 := by
  unfold t2 opt
  congr 1; funext r1 e1; congr 1; funext r1 e1; congr 1; funext r2 e2
  cases rv r1 e2 <;> cases rv r2 e2 <;> rfl
theorem x_1 {ta p x e Q} : t1 ta p x e Q = ta x e fun r1 e1 => opt (rv r1 e1) <| @hid _ fun d1 => p d1 fun r => Q r e1 := by
  unfold t1 opt
  congr 1; funext r1 e1
  cases rv r1 e1 <;> rfl
theorem x_D {d x e Q} : tD d x e Q = Q (.d d) e := rfl
def bC {f : Bool → Prop} (d : D) (_ : Hid f) : Prop := match d with
  | .bl b => f b
  | _ => False
theorem bC_b {b f} : bC (.bl b) (@hid _ f) = f b := rfl
theorem x_B {t x e Q} : tB t x e Q = t x e fun r e1 => opt (rv r e1) <| @hid _ fun d => bC d <| @hid _ fun b => Q b e1 := by
  unfold tB opt bC
  congr 1; funext r1 e1
  cases rv r1 e1 with
  | none => rfl
  | some d => cases d <;> rfl
theorem x_and {t u x e Q} : tAnd t u x e Q = t x e fun c e1 => br c (@hid _ ((u x e1 Q), (Q false e1))) := rfl
theorem x_or {t u x e Q} : tOr t u x e Q = t x e fun c e1 => br c (@hid _ ((Q true e1), (u x e1 Q))) := rfl
theorem x_not {t x e Q} : tNot t x e Q = t x e fun c e1 => Q (!c) e1 := rfl
theorem x_andV {ta tb x e Q} : tAndV ta tb x e Q = ta x e fun r e1 => opt (rv r e1) <| @hid _ fun d => bC d <| @hid _ fun c => br c (@hid _ ((tb x e1 Q), (Q (.d (.bl false)) e1))) := by
  unfold tAndV opt bC br
  congr 1; funext r1 e1
  cases rv r1 e1 with
  | none => rfl
  | some d => cases d <;> rfl
theorem x_orV {ta tb x e Q} : tOrV ta tb x e Q = ta x e fun r e1 => opt (rv r e1) <| @hid _ fun d => bC d <| @hid _ fun c => br c (@hid _ ((Q (.d (.bl true)) e1), (tb x e1 Q))) := by
  unfold tOrV opt bC br
  congr 1; funext r1 e1
  cases rv r1 e1 with
  | none => rfl
  | some d => cases d <;> rfl
theorem x_notV {ta x e Q} : tNotV ta x e Q = ta x e fun r e1 => opt (rv r e1) <| @hid _ fun d => bC d <| @hid _ fun c => Q (.d (.bl (!c))) e1 := by
  unfold tNotV opt bC
  congr 1; funext r1 e1
  cases rv r1 e1 with
  | none => rfl
  | some d => cases d <;> rfl
theorem x_tif {t ta tb x e Q} : tIf t ta tb x e Q = t x e fun c e1 => br c (@hid _ ((ta x e1 Q), (tb x e1 Q))) := rfl
theorem x_nil {x e Q} : tNil x e Q = Q [] e := rfl
theorem x_cons {ta tr x e Q} : tCons ta tr x e Q = ta x e fun r e1 => fz r e1 fun d e2 => tr x e2 fun ds e3 => Q (d :: ds) e3 := rfl
theorem x_tup {t x e Q} : tTup t x e Q = t x e fun ds e1 => ds.length ≤ sizeLine ∧ Q (.d (.tup ds)) e1 := rfl
theorem x_lst {t x e Q} : tLst t x e Q = t x e fun ds e1 => ds.length ≤ sizeLine ∧ Q (.own ds) e1 := rfl
theorem x_rnil {x e Q} : rNil x e Q = Q [] e := rfl
theorem x_rcons {ta tr x e Q} : rCons ta tr x e Q = ta x e fun r e1 => hold r e1 fun r e2 => tr x e2 fun rs e3 => Q (r :: rs) e3 := rfl
theorem x_callP {p t x e Q} : tCallP p t x e Q = t x e fun rs e1 => opt (rvL rs e1) <| @hid _ fun ds => p ds fun r => Q r e1 := by
  unfold tCallP opt
  congr 1; funext rs e1
  cases rvL rs e1 <;> rfl
def consO : Option D → Option (List D) → Option (List D)
  | some a, some l => some (a :: l)
  | _, _ => none
theorem consO_s {a l} : consO (some a) (some l) = some (a :: l) := rfl
theorem x_rvLc {r rs e} : rvL (r :: rs) e = consO (rv r e) (rvL rs e) := by
  simp only [rvL]
  cases rv r e <;> cases rvL rs e <;> rfl
theorem x_rvLn {e} : rvL [] e = some [] := rfl
theorem x_meth {T p to t x e Q} : tMeth T p to t x e Q = to x e fun r e1 => hold r e1 fun r e1 => opt (rv r e1) <| @hid _ fun d => D.isTy T d ∧ t x e1 fun rs e2 => opt (rv r e2) <| @hid _ fun d => opt (rvL rs e2) <| @hid _ fun ds => p d ds fun r => Q r e2 := by
  unfold tMeth opt
  congr 1; funext r e1; congr 1; funext r e1
  cases rv r e1 with
  | none => simp
  | some d =>
    simp only
    congr 2; funext rs e2
    cases rv r e2 <;> cases rvL rs e2 <;> rfl
theorem x_meth0 {T p to x e Q} : tMeth0 T p to x e Q = to x e fun r e1 => opt (rv r e1) <| @hid _ fun d => D.isTy T d ∧ p d [] fun r => Q r e1 := by
  unfold tMeth0 opt
  congr 1; funext r e1
  cases rv r e1 <;> rfl
theorem isTy_s {l} : D.isTy "str" (.str l) = True := by simp [D.isTy]
theorem isTy_l {l} : D.isTy "list" (.lst l) = True := by simp [D.isTy]
theorem x_mut {p to t x e Q} : tMut p to t x e Q = to x e fun r e1 => hold r e1 fun r e1 => (mget r e1).isSome = true ∧ t x e1 fun as e2 => opt (mget r e2) <| @hid _ fun ds => p ds as fun ds' y => Q (.d y) (mset r e2 ds') := by
  unfold tMut opt
  congr 1; funext r e1; congr 1; funext r e1; congr 2; funext as e2
  cases mget r e2 <;> rfl
def mgC : Option C → Option (List D)
  | some (.own ds) => some ds
  | _ => none
theorem mgC_own {ds} : mgC (some (.own ds)) = some ds := rfl
theorem x_mg {i e} : mget (.nam i) e = mgC e.sl[i]? := by
  show (match e.sl[i]? with | some (.own ds) => some ds | _ => none) = _
  unfold mgC
  cases e.sl[i]? with
  | none => rfl
  | some c => cases c <;> rfl
theorem x_ms {i e ds} : mset (.nam i) e ds = e.setC i (.own ds) := rfl
theorem x_sl {te tl th x e Q} : tSl te tl th x e Q = te x e fun r e1 => hold r e1 fun r e1 => tl x e1 fun lo e2 => th x e2 fun hi e3 => opt (rv r e3) <| @hid _ fun d => pSl d lo hi fun r => Q r e3 := by
  unfold tSl opt
  congr 1; funext r e1; congr 1; funext r e1; congr 1; funext lo e2; congr 1; funext hi e3
  cases rv r e3 <;> rfl
theorem x_on {x e Q} : oNone x e Q = Q none e := rfl
def iC {f : Int → Prop} (d : D) (_ : Hid f) : Prop := match d with
  | .int b => f b
  | _ => False
theorem iC_i {b f} : iC (.int b) (@hid _ f) = f b := rfl
theorem x_os {t x e Q} : oSome t x e Q = t x e fun r e1 => opt (rv r e1) <| @hid _ fun d => iC d <| @hid _ fun i => Q (some i) e1 := by
  unfold oSome opt iC
  congr 1; funext r e1
  cases rv r e1 with
  | none => rfl
  | some d => cases d <;> rfl
theorem x_lc {ti g tt te vs x e Q} : cLc ti g tt te vs x e Q = ti x e fun items e1 => items.length ≤ sizeLine ∧ plainC e1.sl vs = true ∧ lcH items (wipeE vs e1) (@hid _ (g, tt, te, vs, fun acc e2 => Q (.own acc) (restE vs e1 e2))) := rfl
theorem x_any {te x e Q} : iAny te x e Q = te x e fun r e1 => fz r e1 fun d e2 => opt d.walk <| @hid _ fun ds => Q ds e2 := by
  unfold iAny opt
  congr 1; funext r e1; congr 1; funext d e2
  cases d.walk <;> rfl
theorem walk_l {ds} : D.walk (.lst ds) = some ds := rfl
theorem walk_t {ds} : D.walk (.tup ds) = some ds := rfl
theorem walk_s {s} : D.walk (.str s) = some (signs s) := rfl
theorem x_pure {p t x e Q} : iPure p t x e Q = t x e fun rs e1 => opt (rvL rs e1) <| @hid _ fun ds => p ds fun l => Q l e1 := by
  unfold iPure opt
  congr 1; funext rs e1
  cases rvL rs e1 <;> rfl
def sC {f : List Nat → Prop} (d : D) (_ : Hid f) : Prop := match d with
  | .str s => f s
  | _ => False
theorem sC_s {b f} : sC (.str b) (@hid _ f) = f b := rfl
theorem x_rev {t x e Q} : iRevP t x e Q = t x e fun r e1 => fz r e1 fun d e2 => sC d <| @hid _ fun s => Q (signs s).reverse e2 := by
  unfold iRevP sC
  rfl
theorem x_call {m t x e Q} : tCall0 m t x e Q = t x e fun ds e1 => m ds e1.st fun c st' => Q c.toR ⟨e1.sl, st'⟩ := rfl
theorem toR_d {d} : C.toR (.d d) = .d d := rfl
theorem toR_o {d} : C.toR (.own d) = .own d := rfl
theorem x_gn {i d e Q} : gName i d e Q = (i < e.sl.length ∧ Q (e.setC i (.d d))) := rfl
theorem x_gnil {e Q} : gNil [] e Q = Q e := by unfold gNil; exact propext ⟨fun h => h.2, fun h => ⟨rfl, h⟩⟩
theorem x_gcons {t u d ds e Q} : gCons t u (d :: ds) e Q = t d e fun e1 => u ds e1 Q := rfl
theorem x_isi {T te x e Q} : tIsi T te x e Q = te x e fun r e1 => opt (rv r e1) <| @hid _ fun d => opt d.tyN <| @hid _ fun u => opt (kitB u T) <| @hid _ fun b => Q (.d (.bl b)) e1 := by
  unfold tIsi opt
  congr 1; funext r e1
  cases rv r e1 with
  | none => rfl
  | some d =>
    simp only
    cases d.tyN with
    | none => rfl
    | some u => simp only; cases kitB u T <;> rfl
/-- operators -/
theorem a_ii {i j Q} : pAdd (.int i) (.int j) Q = Q (.d (.int (i + j))) := rfl
theorem a_ss {s t Q} : pAdd (.str s) (.str t) Q = (s.length + t.length ≤ sizeLine ∧ Q (.d (.str (s ++ t)))) := rfl
theorem a_ll {s t Q} : pAdd (.lst s) (.lst t) Q = (s.length + t.length ≤ sizeLine ∧ Q (.own (s ++ t))) := rfl
theorem a_tt {s t Q} : pAdd (.tup s) (.tup t) Q = (s ≠ [] ∧ t ≠ [] ∧ s.length + t.length ≤ sizeLine ∧ Q (.d (.tup (s ++ t)))) := rfl
theorem a_I {C f i j Q} : pI C f (.int i) (.int j) Q = (C i j ∧ Q (.d (f i j))) := rfl
theorem a_neg {i Q} : pNeg (.int i) Q = Q (.d (.int (-i))) := rfl
theorem a_mul {i j Q} : pMul (.int i) (.int j) Q = (CMul i j ∧ Q (.d (.int (i * j)))) := rfl
theorem a_mulL {xs k Q} : pMul (.lst xs) (.int k) Q = ((-(2 ^ 63) ≤ k ∧ k < 2 ^ 63) ∧ xs.length * k.toNat ≤ sizeLine ∧ Q (.own (List.replicate k.toNat xs).flatten)) := rfl
theorem a_mulS {xs : List Nat} {k Q} : pMul (.str xs) (.int k) Q = ((-(2 ^ 63) ≤ k ∧ k < 2 ^ 63) ∧ xs.length * k.toNat ≤ 16777216 ∧ Q (.d (.str (List.replicate k.toNat xs).flatten))) := rfl
theorem a_eq {d e Q} : pEq d e Q = (d.ok 64 = true ∧ e.ok 64 = true ∧ Q (.d (.bl (D.eq d e)))) := rfl
theorem a_ne {d e Q} : pNe d e Q = (d.ok 64 = true ∧ e.ok 64 = true ∧ Q (.d (.bl (!D.eq d e)))) := rfl
theorem a_lt {i j Q} : pLt (.int i) (.int j) Q = Q (.d (.bl (decide (i < j)))) := rfl
theorem a_le {i j Q} : pLe (.int i) (.int j) Q = Q (.d (.bl (decide (i ≤ j)))) := rfl
theorem a_gt {i j Q} : pGt (.int i) (.int j) Q = Q (.d (.bl (decide (j < i)))) := rfl
theorem a_ge {i j Q} : pGe (.int i) (.int j) Q = Q (.d (.bl (decide (j ≤ i)))) := rfl
theorem a_ltS {i j Q} : pLt (.str i) (.str j) Q = Q (.d (.bl (decide (i < j)))) := rfl
theorem a_leS {i j Q} : pLe (.str i) (.str j) Q = Q (.d (.bl (!decide (j < i)))) := rfl
theorem a_inS {c l Q} : pIn false (.str [c]) (.str l) Q = Q (.d (.bl (decide (c ∈ l)))) := rfl
theorem a_ninS {c l Q} : pIn true (.str [c]) (.str l) Q = Q (.d (.bl (!decide (c ∈ l)))) := rfl
theorem a_inL {d l Q} : pIn false d (.lst l) Q = (d.ok 64 = true ∧ D.okL l 63 = true ∧ Q (.d (.bl (l.any fun z => D.eq z d)))) := rfl
theorem a_ninL {d l Q} : pIn true d (.lst l) Q = (d.ok 64 = true ∧ D.okL l 63 = true ∧ Q (.d (.bl (!l.any fun z => D.eq z d)))) := rfl
theorem a_inT {d l Q} : pIn false d (.tup l) Q = (d.flat = true ∧ l.all D.flat = true ∧ Q (.d (.bl (l.any fun z => D.eq z d)))) := rfl
theorem a_ninT {d l Q} : pIn true d (.tup l) Q = (d.flat = true ∧ l.all D.flat = true ∧ Q (.d (.bl (!l.any fun z => D.eq z d)))) := rfl
theorem a_ixL {l i Q} : pIx (.lst l) (.int i) Q = (opt (atI l i) <| @hid _ fun y => Q (.d y)) := by
  show (match atI l i with | some y => Q (.d y) | none => False) = _
  unfold opt
  cases atI l i <;> rfl
theorem a_ixT {l i Q} : pIx (.tup l) (.int i) Q = (opt (atI l i) <| @hid _ fun y => Q (.d y)) := by
  show (match atI l i with | some y => Q (.d y) | none => False) = _
  unfold opt
  cases atI l i <;> rfl
theorem a_ixS {l i Q} : pIx (.str l) (.int i) Q = (opt (atI l i) <| @hid _ fun c => Q (.d (.str [c]))) := by
  show (match atI l i with | some y => Q (.d (.str [y])) | none => False) = _
  unfold opt
  cases atI l i <;> rfl
theorem a_ixR {n i Q} : pIx (.scr n) (.int i) Q = ((0 ≤ i ∧ i < n) ∧ ∀ z, Q (.d (.int z))) := rfl
theorem a_ixB {i Q} : pIx .box (.int i) Q = ((i = 0 ∨ i = 1) ∧ ∀ z, Q (.d (.int z))) := rfl
theorem a_slL {l lo hi Q} : pSl (.lst l) lo hi Q = Q (.own (cut l lo hi)) := rfl
theorem a_slT {l lo hi Q} : pSl (.tup l) lo hi Q = Q (.d (.tup (cut l lo hi))) := rfl
theorem a_slS {l lo hi Q} : pSl (.str l) lo hi Q = Q (.d (.str (cut l lo hi))) := rfl
theorem a_lenS {s Q} : pLen [.str s] Q = Q (.d (.int s.length)) := rfl
theorem a_lenL {s Q} : pLen [.lst s] Q = Q (.d (.int s.length)) := rfl
theorem a_lenT {s Q} : pLen [.tup s] Q = Q (.d (.int s.length)) := rfl
theorem a_lenR {n Q} : pLen [.scr n] Q = Q (.d (.int n)) := rfl
theorem a_join {s x Q} : pJoin (.str s) [x] Q = (opt (strL x.items) <| @hid _ fun r => (r.map List.length).sum + r.length * s.length ≤ 16777216 ∧ Q (.d (.str (joinN s r)))) := by
  show (match strL x.items with | some r => _ | none => False) = _
  unfold opt
  cases strL x.items <;> rfl
theorem items_l {l} : D.items (.lst l) = l := rfl
theorem items_t {l} : D.items (.tup l) = l := rfl
theorem a_ixof {l c Q} : pIndexS (.str l) [.str [c]] Q = (c ∈ l ∧ Q (.d (.int (ixOf c l)))) := rfl
theorem a_ixofL {l y Q} : pIndexL (.lst l) [y] Q = (y.ok 64 = true ∧ D.okL l 63 = true ∧ (l.any fun z => D.eq z y) = true ∧ Q (.d (.int (ixD y l)))) := rfl
theorem a_rng1 {j Q} : pRng1 [.int j] Q = ((-(2 ^ 62) ≤ j ∧ j < 2 ^ 62) ∧ Q (rngI 0 j.toNat)) := rfl
theorem a_rng2 {i j Q} : pRng2 [.int i, .int j] Q = ((-(2 ^ 62) ≤ i ∧ i < 2 ^ 62 ∧ -(2 ^ 62) ≤ j ∧ j < 2 ^ 62) ∧ Q (rngI i (j - i).toNat)) := rfl
theorem a_min2 {i j Q} : pMin2 [.int i, .int j] Q = Q (.d (.int (min i j))) := by
  show Q (.d (.int (if j < i then j else i))) = _
  congr 3; rw [Int.min_def]; split <;> split <;> omega
theorem a_max2 {i j Q} : pMax2 [.int i, .int j] Q = Q (.d (.int (max i j))) := by
  show Q (.d (.int (if j > i then j else i))) = _
  congr 3; rw [Int.max_def]; split <;> split <;> omega
theorem a_lstS {s Q} : pList [.str s] Q = Q (.own (signs s)) := rfl
theorem a_lstL {s Q} : pList [.lst s] Q = Q (.own s) := rfl
theorem a_lstT {s Q} : pList [.tup s] Q = Q (.own s) := rfl
theorem a_int {s Q} : pInt [.int s] Q = Q (.d (.int s)) := rfl
theorem a_intB {s Q} : pInt [.bl s] Q = Q (.d (.int (if s then 1 else 0))) := rfl
theorem a_isN {neg d Q} : pIsN neg d .non Q = Q (.d (.bl (if neg then !d.isNon else d.isNon))) := rfl
def popAtH {K : List D → D → Prop} (ds as : List D) (_ : Hid K) : Prop := mPopAt ds as K
theorem x_popAt {ds as K} : mPopAt ds as K = popAtH ds as (@hid _ K) := rfl
def allH {Q : R → Prop} (ds : List D) (_ : Hid Q) : Prop := pAll [.lst ds] Q
theorem x_all {ds Q} : pAll [.lst ds] Q = allH ds (@hid _ Q) := rfl
def anyH {Q : R → Prop} (ds : List D) (_ : Hid Q) : Prop := pAny [.lst ds] Q
theorem x_anyB {ds Q} : pAny [.lst ds] Q = anyH ds (@hid _ Q) := rfl
theorem a_isB {neg a b Q} : pIsN neg (.bl a) (.bl b) Q = Q (.d (.bl (if neg then !decide (a = b) else decide (a = b)))) := rfl
theorem m_app {ds y K} : mAppend ds [y] K = (ds.length < sizeLine ∧ K (ds ++ [y]) .non) := rfl
theorem a_pop {ds K} : mPop ds [] K = (opt ds[ds.length - 1]? <| @hid _ fun y => K ds.dropLast y) := by
  unfold mPop opt
  simp only
  cases ds[ds.length - 1]? <;> rfl
/-- data -/
theorem ok_s {s n} : D.ok (.str s) n = true := rfl
theorem ok_i {s n} : D.ok (.int s) n = true := rfl
theorem ok_b {s n} : D.ok (.bl s) n = true := rfl
theorem ok_n {n} : D.ok .non n = true := rfl
theorem ok_l {ds n} : D.ok (.lst ds) (n + 1) = D.okL ds n := rfl
theorem ok_t {ds n} : D.ok (.tup ds) (n + 1) = D.okL ds n := rfl
theorem okL_n {n} : D.okL [] n = true := rfl
theorem okL_c {d ds n} : D.okL (d :: ds) n = (d.ok n && D.okL ds n) := rfl
theorem e_ss {x y} : D.eq (.str x) (.str y) = decide (x = y) := by simp only [D.eq]; rw [Bool.eq_iff_iff]; simp
theorem e_ii {x y} : D.eq (.int x) (.int y) = decide (x = y) := by simp only [D.eq]; rw [Bool.eq_iff_iff]; simp
theorem e_bb {x y} : D.eq (.bl x) (.bl y) = decide (x = y) := by cases x <;> cases y <;> rfl
theorem e_ll {x y} : D.eq (.lst x) (.lst y) = D.eqL x y := by simp only [D.eq]
theorem e_tt {x y} : D.eq (.tup x) (.tup y) = D.eqL x y := by simp only [D.eq]
theorem eL_nn : D.eqL [] [] = true := by simp only [D.eqL]
theorem eL_cc {a x b y} : D.eqL (a :: x) (b :: y) = (D.eq a b && D.eqL x y) := by simp only [D.eqL]
theorem eL_nc {b y} : D.eqL [] (b :: y) = false := by simp only [D.eqL]
theorem eL_cn {b y} : D.eqL (b :: y) [] = false := by simp only [D.eqL]
theorem ty_s {s} : D.tyN (.str s) = some "str" := rfl
theorem ty_i {s} : D.tyN (.int s) = some "int" := rfl
theorem ty_l {s} : D.tyN (.lst s) = some "list" := rfl
theorem ty_b {s} : D.tyN (.bl s) = some "bool" := rfl
theorem plain_nil {l} : plainC l [] = true := rfl
theorem plain_cons {l v vs} : plainC l (v :: vs) = ((match l.getD v .un with | .d _ => true | .un => true | _ => false) && plainC l vs) := rfl
theorem w_nil {e} : wipeE [] e = e := rfl
theorem w_cons {v vs e} : wipeE (v :: vs) e = (wipeE vs e).setC v .un := rfl
theorem startC_eq {N ds} : startC N ds = ds.map C.d ++ List.replicate (N.length - ds.length) C.un := rfl
theorem sline : (sizeLine : Nat) = 16777216 := sizeLine_eq
end Pu
set_option maxRecDepth 100000
set_option maxHeartbeats 4000000
namespace Pu
open PySem L2
theorem forH_inv {g : PTG} {tb : PTS} {x : PX} {P : PEn} (I : List D → En → Prop) {ds : List D} {e : En} (h0 : I ds e) (hd : ∀ e, I [] e → P.nx e) (h : ∀ d r e, I (d :: r) e → ∀ N : En → Prop, (∀ e', I r e' → N e') → g d e fun e' => tb x { P with nx := N, ct := N, bk := P.nx } e') :
    forH ds e (@hid _ (g, tb, x, P)) := forR_inv I h hd ds e h0
/-- over the signs of a text: what is behind, what is to come -/
theorem forH_signs {g : PTG} {tb : PTS} {x : PX} {P : PEn} (w : List Nat) (I : List Nat → List Nat → En → Prop) {e : En} (h0 : I [] w e) (hd : ∀ e, I w [] e → P.nx e) (h : ∀ pre c suf e, pre ++ c :: suf = w → I pre (c :: suf) e → ∀ N : En → Prop, (∀ e', I (pre ++ [c]) suf e' → N e') → g (.str [c]) e fun e' => tb x { P with nx := N, ct := N, bk := P.nx } e') :
    forH (signs w) e (@hid _ (g, tb, x, P)) := by
  refine forH_inv (fun rest e => ∃ pre suf, pre ++ suf = w ∧ rest = signs suf ∧ I pre suf e) ⟨[], w, rfl, rfl, h0⟩ ?_ ?_
  · rintro e ⟨pre, suf, h1, h2, h3⟩
    cases suf with
    | nil => rw [List.append_nil] at h1; subst h1; exact hd e h3
    | cons c suf => cases h2
  · rintro d r e ⟨pre, suf, h1, h2, h3⟩ N hN
    cases suf with
    | nil => cases h2
    | cons c suf =>
      cases h2
      exact h pre c suf e h1 h3 N fun e' h' => hN e' ⟨pre ++ [c], suf, by rw [← h1]; simp, rfl, h'⟩
/-- over a range from i on: the turns done -/
theorem forH_rng {g : PTG} {tb : PTS} {x : PX} {P : PEn} (lo : Int) (n : Nat) (I : Nat → En → Prop) {e : En} (h0 : I 0 e) (hd : ∀ e, I n e → P.nx e) (h : ∀ j e, j < n → I j e → ∀ N : En → Prop, (∀ e', I (j + 1) e' → N e') → g (.int (lo + j)) e fun e' => tb x { P with nx := N, ct := N, bk := P.nx } e') :
    forH (rngI lo n) e (@hid _ (g, tb, x, P)) := by
  refine forH_inv (fun rest e => ∃ j, j ≤ n ∧ rest = rngI (lo + j) (n - j) ∧ I j e) ⟨0, by omega, by simp, h0⟩ ?_ ?_
  · rintro e ⟨j, h1, h2, h3⟩
    have := congrArg List.length h2
    rw [rngI_length] at this
    simp at this
    have e0 : j = n := by omega
    subst e0
    exact hd e h3
  · rintro d r e ⟨j, h1, h2, h3⟩ N hN
    have hl := congrArg List.length h2
    rw [rngI_length] at hl
    simp at hl
    obtain ⟨z, hz⟩ : ∃ z, n - j = z + 1 := ⟨n - j - 1, by omega⟩
    rw [hz, rngI_succ] at h2
    cases h2
    exact h j e (by omega) h3 N fun e' h' => hN e' ⟨j + 1, by omega, by rw [show n - (j + 1) = z by omega]; congr 1; push_cast; omega, h'⟩
/-- over a mapped list -/
theorem forH_map {α : Type} (f : α → D) {g : PTG} {tb : PTS} {x : PX} {P : PEn} (w : List α) (I : List α → List α → En → Prop) {e : En} (h0 : I [] w e) (hd : ∀ e, I w [] e → P.nx e) (h : ∀ pre c suf e, pre ++ c :: suf = w → I pre (c :: suf) e → ∀ N : En → Prop, (∀ e', I (pre ++ [c]) suf e' → N e') → g (f c) e fun e' => tb x { P with nx := N, ct := N, bk := P.nx } e') :
    forH (w.map f) e (@hid _ (g, tb, x, P)) := by
  refine forH_inv (fun rest e => ∃ pre suf, pre ++ suf = w ∧ rest = suf.map f ∧ I pre suf e) ⟨[], w, rfl, rfl, h0⟩ ?_ ?_
  · rintro e ⟨pre, suf, h1, h2, h3⟩
    cases suf with
    | nil => rw [List.append_nil] at h1; subst h1; exact hd e h3
    | cons c suf => cases h2
  · rintro d r e ⟨pre, suf, h1, h2, h3⟩ N hN
    cases suf with
    | nil => cases h2
    | cons c suf =>
      cases h2
      exact h pre c suf e h1 h3 N fun e' h' => hN e' ⟨pre ++ [c], suf, by rw [← h1]; simp, rfl, h'⟩
theorem least_nat {R : Nat → Prop} (h : ∃ n, R n) : ∃ n, R n ∧ ∀ k, R k → n ≤ k := by
  obtain ⟨n, hn⟩ := h
  induction n using Nat.strongRecOn with
  | _ n ih =>
    by_cases z : ∃ k, k < n ∧ R k
    · obtain ⟨k, h1, h2⟩ := z
      exact ih k h1 h2
    · exact ⟨n, hn, fun k hk => Nat.le_of_not_lt fun hl => z ⟨k, hl, hk⟩⟩
theorem wh_on {c : PTT} {tb : PTS} {x : PX} {P : PEn} {e : En} {α : Type} (st : α → En) (W : α → Prop) (μ : α → Nat) (a0 : α) (he : e = st a0) (h0 : W a0)
    (h : ∀ a, W a → ∀ N : En → Prop, (∀ a', W a' → μ a' < μ a → N (st a')) → c x (st a) fun b e1 => br b (@hid _ (tb x { P with nx := N, ct := N, bk := P.nx } e1, P.nx e1))) : whH e (@hid _ (c, tb, x, P)) := by
  classical
  let R : En → Nat → Prop := fun e n => ∃ a, e = st a ∧ W a ∧ μ a = n
  let m : En → Nat := fun e => if h : ∃ n, R e n then Classical.choose (least_nat h) else 0
  have key : ∀ e, (∃ n, R e n) → R e (m e) ∧ ∀ k, R e k → m e ≤ k := fun e hh => by
    have z : m e = Classical.choose (least_nat hh) := dif_pos hh
    rw [z]
    exact Classical.choose_spec (least_nat hh)
  refine ⟨fun e => ∃ a, e = st a ∧ W a, m, ⟨a0, he, h0⟩, ?_⟩
  intro e ⟨a1, h1, h2⟩
  obtain ⟨⟨a, g1, g2, g3⟩, _⟩ := key e ⟨_, a1, h1, h2, rfl⟩
  subst g1
  exact h a g2 (fun e' => (∃ a, e' = st a ∧ W a) ∧ m e' < m (st a)) fun a' w' l' => ⟨⟨a', rfl, w'⟩, Nat.lt_of_le_of_lt ((key (st a') ⟨_, a', rfl, w', rfl⟩).2 _ ⟨a', rfl, w', rfl⟩) (by rw [← g3]; exact l')⟩
theorem forH_on {g : PTG} {tb : PTS} {x : PX} {P : PEn} {α : Type} (st : α → En) (I : List D → α → Prop) (a0 : α) {ds : List D} {e : En} (he : e = st a0) (h0 : I ds a0) (hd : ∀ a, I [] a → P.nx (st a))
    (h : ∀ d r a, I (d :: r) a → ∀ N : En → Prop, (∀ a', I r a' → N (st a')) → g d (st a) fun e' => tb x { P with nx := N, ct := N, bk := P.nx } e') : forH ds e (@hid _ (g, tb, x, P)) := by
  refine forH_inv (fun r e => ∃ a, e = st a ∧ I r a) ⟨a0, he, h0⟩ ?_ ?_
  · rintro e ⟨a, rfl, h1⟩; exact hd a h1
  · rintro d r e ⟨a, rfl, h1⟩ N hN
    exact h d r a h1 N fun a' h' => hN _ ⟨a', rfl, h'⟩
theorem at_last {α : Type} {l : List α} {a : α} {f : α → Prop} (h : l.getLast? = some a) (q : f a) : opt (atI l (-1)) (@hid _ f) := by
  refine opt_of ?_ q
  unfold atI ixN
  rw [if_neg (by omega)]
  have hl : l ≠ [] := fun z => by subst z; cases h
  have hp : 0 < l.length := List.length_pos_iff.mpr hl
  rw [if_pos (by omega)]
  have : ((-1 : Int) + (l.length : Int)).toNat = l.length - 1 := by omega
  simp only [Option.bind_some, this]
  rw [List.getLast?_eq_getElem?] at h
  exact h
theorem at_head {α : Type} {l : List α} {a : α} {f : α → Prop} (h : l.head? = some a) (q : f a) : opt (atI l 0) (@hid _ f) := by
  refine opt_of ?_ q
  cases l with
  | nil => cases h
  | cons b l => cases h; unfold atI ixN; simp
theorem lcH_map {g : PTG} {te : PTE} {vs : List Nat} {e : En} {Q : List D → En → Prop} {ds : List D} (f : D → D) (h : ∀ d ∈ ds, ∀ K : D → En → Prop, K (f d) e → g d e fun e1 => te noX e1 fun r e3 => fz r e3 fun y e4 => K y (wipeE vs e4)) (q : Q (ds.map f) e) : lcH ds e (@hid _ (g, cYes, te, vs, Q)) :=
  lcR_map f ds [] h (by simpa using q)
theorem lcH_rel {g : PTG} {te : PTE} {vs : List Nat} {e : En} {Q : List D → En → Prop} {ds : List D} (R : D → D → Prop) (h : ∀ d ∈ ds, ∀ K : D → En → Prop, (∀ y, R d y → K y e) → g d e fun e1 => te noX e1 fun r e3 => fz r e3 fun y e4 => K y (wipeE vs e4)) (q : ∀ ys, All2 R ds ys → Q ys e) : lcH ds e (@hid _ (g, cYes, te, vs, Q)) :=
  lcR_rel R ds [] h (by simpa using q)
theorem lcH_filter {g : PTG} {tt : PTT} {te : PTE} {vs : List Nat} {e : En} {Q : List D → En → Prop} {ds : List D} (p : D → Bool) (f : D → D) (h : ∀ d ∈ ds, ∀ K : Option D → En → Prop, K (if p d = true then some (f d) else none) e → g d e fun e1 => tt noX e1 fun b e2 => if b = true then te noX e2 fun r e3 => fz r e3 fun y e4 => K (some y) (wipeE vs e4) else K none (wipeE vs e2)) (q : Q ((ds.filter p).map f) e) : lcH ds e (@hid _ (g, tt, te, vs, Q)) :=
  lcR_filter p f ds [] h (by simpa using q)
theorem x_ite {b : Bool} {p q : Prop} : (if b = true then p else q) = br b (@hid _ (p, q)) := rfl
theorem x_gtup {n t ds e Q} : gTup n t (.tup ds) e Q = (ds.length = n ∧ t ds e Q) := rfl
theorem x_yes {x e Q} : cYes x e Q = Q true e := rfl
theorem strL_signs (w : List Nat) : strL (signs w) = some (w.map fun c => [c]) := by
  have e : signs w = (w.map fun c => [c]).map D.str := by unfold signs; rw [List.map_map]; rfl
  rw [e, strL_map]
theorem len_signs {w : List Nat} (h : w.length ≤ 16777216) : ((w.map fun c => [c]).map List.length).sum + (w.map fun c => [c]).length * ([] : List Nat).length ≤ 16777216 := by
  have : ((w.map fun c => [c]).map List.length) = List.replicate w.length 1 := by
    rw [List.map_map, List.eq_replicate_iff]
    refine ⟨by simp, fun b hb => ?_⟩
    obtain ⟨a, _, rfl⟩ := List.mem_map.mp hb
    rfl
  rw [this, List.sum_replicate_nat]
  simp
  exact h
theorem len_signs' {w : List Nat} (h : w.length ≤ 16777216) : ((w.map fun c => [c]).map List.length).sum + (w.map fun c => [c]).length * 0 ≤ 16777216 := len_signs h
theorem signs_len (w : List Nat) : (signs w).length = w.length := by unfold signs; simp
theorem signs_app (v w : List Nat) : signs v ++ signs w = signs (v ++ w) := by unfold signs; rw [List.map_append]
theorem signs_snoc (v : List Nat) (c : Nat) : signs v ++ [.str [c]] = signs (v ++ [c]) := signs_app v [c]
theorem signs_nil : signs [] = [] := rfl
theorem signs_rev (v : List Nat) : (signs v).reverse = signs v.reverse := by unfold signs; rw [List.map_reverse]
theorem mem_signs {w : List Nat} {d : D} (h : d ∈ signs w) : ∃ c, c ∈ w ∧ d = .str [c] := by
  unfold signs at h
  obtain ⟨c, hc, rfl⟩ := List.mem_map.mp h
  exact ⟨c, hc, rfl⟩
theorem blL_true : ∀ {ds : List D}, (∀ d ∈ ds, d = .bl true) → blL ds = some (List.replicate ds.length true)
  | [], _ => rfl
  | d :: ds, h => by
    rw [h d (by simp)]
    simp only [blL]
    rw [blL_true fun d hd => h d (List.mem_cons_of_mem _ hd)]
    rfl
theorem pAll_true {ds : List D} {Q : R → Prop} (h : ∀ d ∈ ds, d = .bl true) (q : Q (.d (.bl true))) : pAll [.lst ds] Q := by
  unfold pAll
  simp only
  rw [blL_true h]
  have : (List.replicate ds.length true).all id = true := by simp
  simp only [this]
  exact q
theorem allH_map {α : Type} {f : α → Bool} {l : List α} {ds : List D} {Q : R → Prop} (h : ds = l.map fun a => .bl (f a)) (q : Q (.d (.bl (l.all f)))) : allH ds (@hid _ Q) := by
  subst h
  show pAll _ _
  unfold pAll
  have e : l.map (fun a => D.bl (f a)) = (l.map f).map D.bl := by rw [List.map_map]; rfl
  rw [e]
  simp only [blL_map]
  have : (l.map f).all id = l.all f := by rw [List.all_map]; rfl
  rw [this]
  exact q
theorem allH_true {ds : List D} {Q : R → Prop} (h : ∀ d ∈ ds, d = .bl true) (q : Q (.d (.bl true))) : allH ds (@hid _ Q) := pAll_true h q
theorem anyH_map {α : Type} {f : α → Bool} {l : List α} {ds : List D} {Q : R → Prop} (h : ds = l.map fun a => .bl (f a)) (q : Q (.d (.bl (l.any f)))) : anyH ds (@hid _ Q) := by
  subst h
  show pAny _ _
  unfold pAny
  have e : l.map (fun a => D.bl (f a)) = (l.map f).map D.bl := by rw [List.map_map]; rfl
  rw [e]
  simp only [blL_map]
  have : (l.map f).any id = l.any f := by rw [List.any_map]; rfl
  rw [this]
  exact q
/-- all(comprehension) of trues -/
theorem all_lc {g : PTG} {te : PTE} {vs : List Nat} {e : En} {ds : List D} {Q : List D → En → Prop} (h : ∀ d ∈ ds, ∀ K : D → En → Prop, K (.bl true) e → g d e fun e1 => te noX e1 fun r e3 => fz r e3 fun y e4 => K y (wipeE vs e4)) (q : ∀ ys, (∀ y ∈ ys, y = .bl true) → Q ys e) : lcH ds e (@hid _ (g, cYes, te, vs, Q)) :=
  lcH_map (fun _ => .bl true) h (q _ fun y hy => by obtain ⟨_, _, rfl⟩ := List.mem_map.mp hy; rfl)
theorem ixN_nat {n : Nat} {i : Int} (h0 : 0 ≤ i) (h1 : i < n) : ixN n i = some i.toNat := by
  unfold ixN
  rw [if_pos h0, if_pos h1]
theorem atI_ok {α : Type} {l : List α} {i : Int} (h0 : 0 ≤ i) (h1 : i < l.length) : ∃ h : i.toNat < l.length, atI l i = some l[i.toNat] := by
  have h : i.toNat < l.length := by omega
  refine ⟨h, ?_⟩
  unfold atI
  rw [ixN_nat h0 h1]
  exact List.getElem?_eq_getElem h
/-- any item -/
theorem at_mem {α : Type} {l : List α} {i : Int} {f : α → Prop} (h0 : 0 ≤ i) (h1 : i < l.length) (h : ∀ a ∈ l, f a) : opt (atI l i) (@hid _ f) := by
  obtain ⟨g, e⟩ := atI_ok h0 h1
  exact opt_of e (h _ (List.getElem_mem g))
theorem at_nat {α : Type} {l : List α} {i : Nat} {f : α → Prop} (h1 : i < l.length) (h : f l[i]) : opt (atI l (i : Int)) (@hid _ f) := opt_of (atI_nat' h1) h
theorem atI_map {α β : Type} (f : α → β) (l : List α) (i : Int) : atI (l.map f) i = (atI l i).map f := by
  unfold atI
  rw [List.length_map]
  cases ixN l.length i with
  | none => rfl
  | some j => simp
theorem opt_map {α β : Type} {f : α → β} {o : Option α} {p : β → Prop} : opt (o.map f) (@hid _ p) = (opt o <| @hid _ fun a => p (f a)) := by cases o <;> rfl
theorem atI_signs (w : List Nat) (i : Int) : atI (signs w) i = (atI w i).map fun c => .str [c] := atI_map _ _ _
/-- the last, the first -/
theorem atI_last {α : Type} (l : List α) : atI l (-1) = l.getLast? := by
  unfold atI ixN
  rw [if_neg (by omega)]
  by_cases h : l = []
  · subst h; rfl
  · have hp : 0 < l.length := List.length_pos_iff.mpr h
    rw [if_pos (by omega)]
    have : ((-1 : Int) + (l.length : Int)).toNat = l.length - 1 := by omega
    simp only [Option.bind_some, this]
    rw [List.getLast?_eq_getElem?]
theorem atI_zero {α : Type} (l : List α) : atI l 0 = l.head? := by
  unfold atI ixN
  rw [if_pos (by omega)]
  cases l with
  | nil => rfl
  | cons a l => simp
theorem popAt_ok {ds : List D} {i : Int} {K : List D → D → Prop} (h0 : 0 ≤ i) (h1 : i < ds.length) (h : ∀ j (hj : j < ds.length), K (ds.eraseIdx j) ds[j]) : mPopAt ds [.int i] K := by
  unfold mPopAt
  simp only
  rw [ixN_nat h0 h1]
  have hj : i.toNat < ds.length := by omega
  simp only [List.getElem?_eq_getElem hj]
  exact h _ hj
/-- slices -/
theorem cut_all {α : Type} (xs : List α) : cut xs none none = xs := by
  unfold cut
  have e1 : HT.sIx xs.length 0 none = 0 := rfl
  have e2 : HT.sIx xs.length xs.length none = xs.length := rfl
  rw [e1, e2]
  simp
theorem sIx_k (n d k : Nat) : HT.sIx n d (some (k : Int)) = min k n := HT.sIx_nat n d k
theorem cut_take {α : Type} (xs : List α) (k : Nat) : cut xs none (some (k : Int)) = xs.take k := by
  unfold cut
  rw [sIx_k]
  have e1 : HT.sIx xs.length 0 none = 0 := rfl
  rw [e1, List.drop_zero, Nat.sub_zero, List.take_eq_take_iff]
  omega
theorem cut_drop {α : Type} (xs : List α) (k : Nat) : cut xs (some (k : Int)) none = xs.drop k := by
  unfold cut
  rw [sIx_k]
  have e2 : HT.sIx xs.length xs.length none = xs.length := rfl
  rw [e2]
  rw [List.take_of_length_le (by simp)]
  by_cases h : k ≤ xs.length
  · rw [Nat.min_eq_left h]
  · rw [Nat.min_eq_right (by omega), List.drop_length, List.drop_of_length_le (by omega)]
theorem cut_mid {α : Type} (xs : List α) (i j : Nat) : cut xs (some (i : Int)) (some (j : Int)) = (xs.take j).drop i := by
  unfold cut
  rw [sIx_k, sIx_k, List.drop_take]
  by_cases h : i ≤ xs.length
  · rw [Nat.min_eq_left h, List.take_eq_take_iff, List.length_drop]
    omega
  · rw [Nat.min_eq_right (a := i) (by omega), List.drop_length, List.drop_of_length_le (i := i) (by omega)]
    simp
theorem sIx_m1 (n d : Nat) : HT.sIx n d (some (-1)) = n - 1 := by
  show (if ((-1 : Int)) < 0 then ((-1 : Int) + (n : Int)).toNat else min (-1 : Int).toNat n) = _
  rw [if_pos (by omega)]
  omega
theorem cut_init {α : Type} (xs : List α) : cut xs none (some (-1)) = xs.dropLast := by
  unfold cut
  have e1 : HT.sIx xs.length 0 none = 0 := rfl
  rw [e1, sIx_m1, List.drop_zero, Nat.sub_zero, List.dropLast_eq_take]
theorem cut_inner {α : Type} (xs : List α) : cut xs (some 1) (some (-1)) = xs.tail.dropLast := by
  unfold cut
  have e1 : HT.sIx xs.length 0 (some 1) = min 1 xs.length := HT.sIx_nat _ _ 1
  rw [e1, sIx_m1]
  cases xs with
  | nil => rfl
  | cons a l =>
    rw [List.length_cons, Nat.min_eq_left (by omega), List.dropLast_eq_take]
    simp
theorem a_repr {d Q} : pRepr [d] Q = (d.ok 64 = true ∧ d.rok = true ∧ d.rlen ≤ 16777216 ∧ Q (.d (.str (shw d)))) := rfl
def minH {Q : R → Prop} (ds : List D) (_ : Hid Q) : Prop := pMin1 [.lst ds] Q
theorem x_min1 {ds Q} : pMin1 [.lst ds] Q = minH ds (@hid _ Q) := rfl
theorem minH_ok {ds : List D} {x : List Nat} {r : List (List Nat)} {Q : R → Prop} (h : ds = (x :: r).map D.str) (q : Q (.d (.str (minS x r)))) : minH ds (@hid _ Q) := by
  subst h
  show (match strL ((x :: r).map D.str) with | some (x :: r) => Q (.d (.str (minS x r))) | _ => False)
  rw [strL_map]
  exact q
theorem a_min2S {x y Q} : pMin2S [.str x, .str y] Q = Q (.d (.str (if y < x then y else x))) := rfl
theorem mem_cut {α : Type} {xs : List α} {lo hi : Option Int} {x : α} (h : x ∈ cut xs lo hi) : x ∈ xs := cut_mem h
end Pu
set_option maxRecDepth 100000
set_option maxHeartbeats 4000000
namespace Pu
open PySem L2
/-! ### stepping: dicts, enumerate, back, sorted -/
theorem x_dict0 {x e Q} : tDict0 x e Q = Q (.dK []) e := rfl
theorem x_aK {i d e Q} : asgR i (.dK d) e Q = Q (e.setC i (.dK d)) := rfl
def kgC : Option C → Option (List (Key × D))
  | some (.dK ds) => some ds
  | _ => none
theorem kgC_dK {ds} : kgC (some (.dK ds)) = some ds := rfl
theorem x_kg {i e} : kget (.nam i) e = kgC e.sl[i]? := by
  show (match e.sl[i]? with | some (.dK ds) => some ds | _ => none) = _
  unfold kgC
  cases e.sl[i]? with
  | none => rfl
  | some c => cases c <;> rfl
theorem x_ks {i e ds} : kset (.nam i) e ds = e.setC i (.dK ds) := rfl
/-- keys: ints, texts -/
def kI (i : Int) : Key := .inl i
def kS (s : List Nat) : Key := .inr ⟨s.toArray⟩
theorem key_i {i} : keyD (.int i) = some (kI i) := rfl
theorem key_s {s} : keyD (.str s) = some (kS s) := rfl
theorem kI_eq {i j} : (kI i = kI j) = (i = j) := by unfold kI; simp
theorem kS_eq {i j} : (kS i = kS j) = (i = j) := by unfold kS; simp
theorem x_dg {to ti x e Q} : tDG to ti x e Q = to x e fun r e1 => hold r e1 fun r e1 => ti x e1 fun ri e2 => opt (kget r e2) <| @hid _ fun kvs => opt (rv ri e2) <| @hid _ fun kd => opt (keyD kd) <| @hid _ fun k => opt (getK kvs k) <| @hid _ fun d => Q (.d d) e2 := by
  unfold tDG opt
  congr 1; funext r e1; congr 1; funext r e1; congr 1; funext ri e2
  cases kget r e2 with
  | none => rfl
  | some kvs =>
    simp only
    cases rv ri e2 with
    | none => rfl
    | some kd =>
      simp only
      cases keyD kd with
      | none => rfl
      | some k => simp only; cases getK kvs k <;> rfl
theorem x_di {neg ti to x e Q} : tDI neg ti to x e Q = ti x e fun ri e1 => hold ri e1 fun ri e1 => to x e1 fun r e2 => opt (kget r e2) <| @hid _ fun kvs => opt (rv ri e2) <| @hid _ fun kd => opt (keyD kd) <| @hid _ fun k => Q (.d (.bl (if neg then !(getK kvs k).isSome else (getK kvs k).isSome))) e2 := by
  unfold tDI opt
  congr 1; funext r e1; congr 1; funext r e1; congr 1; funext ri e2
  cases kget ri e2 with
  | none => rfl
  | some kvs =>
    simp only
    cases rv r e2 with
    | none => rfl
    | some kd =>
      simp only
      cases keyD kd <;> rfl
theorem x_dpt {te to ti x P e} : sDPt te to ti x P e = te x e fun r0 e1 => fz r0 e1 fun dv e2 => to x e2 fun ro e3 => hold ro e3 fun ro e3 => ti x e3 fun ri e4 => opt (kget ro e4) <| @hid _ fun kvs => opt (rv ri e4) <| @hid _ fun kd => opt (keyD kd) <| @hid _ fun k => kvs.length < sizeLine ∧ P.nx (kset ro e4 (setK kvs k dv)) := by
  unfold sDPt opt
  congr 1; funext r e1; congr 1; funext r e1; congr 1; funext ri e2; congr 1; funext ri e2; congr 1; funext ri2 e4
  cases kget ri e4 with
  | none => rfl
  | some kvs =>
    simp only
    cases rv ri2 e4 with
    | none => rfl
    | some kd =>
      simp only
      cases keyD kd <;> rfl
def oneR {f : R → Prop} (rs : List R) (_ : Hid f) : Prop := match rs with
  | [r] => f r
  | _ => False
theorem oneR_1 {r f} : oneR [r] (@hid _ f) = f r := rfl
theorem x_enum {t x e Q} : iEnumP t x e Q = t x e fun rs e1 => oneR rs <| @hid _ fun r => fz r e1 fun d e2 => opt d.walkE <| @hid _ fun ds => Q (enumF 0 ds) e2 := by
  unfold iEnumP opt oneR
  congr 1; funext rs e1
  match rs with
  | [] => rfl
  | [r] =>
    show fz r e1 _ = fz r e1 _
    congr 1; funext d e2
    cases d.walkE <;> rfl
  | _ :: _ :: _ => rfl
theorem walkE_l {ds} : D.walkE (.lst ds) = some ds := rfl
theorem walkE_t {ds} : D.walkE (.tup ds) = some ds := rfl
theorem walkE_s {s} : D.walkE (.str s) = some (signs s) := rfl
theorem a_backL {ds Q} : pBack (.lst ds) Q = Q (.own ds.reverse) := rfl
theorem a_backT {ds Q} : pBack (.tup ds) Q = Q (.d (.tup ds.reverse)) := rfl
theorem x_never {x P e} : sNever x P e = False := rfl
theorem ty_t {s} : D.tyN (.tup s) = some "tuple" := rfl
theorem a_tupL {s Q} : pTuple [.lst s] Q = Q (.d (.tup s)) := rfl
theorem a_tupT {s Q} : pTuple [.tup s] Q = Q (.d (.tup s)) := rfl
/-- sorted, as a list -/
def insS (x : List Nat) : List (List Nat) → List (List Nat)
  | [] => [x]
  | y :: r => if y < x then y :: insS x r else x :: y :: r
def srt : List (List Nat) → List (List Nat)
  | [] => []
  | x :: r => insS x (srt r)
def Asc : List (List Nat) → Prop
  | [] => True
  | x :: r => (∀ y ∈ r, ¬ y < x) ∧ Asc r
theorem insS_perm (x : List Nat) : ∀ r, (insS x r).Perm (x :: r)
  | [] => .refl _
  | y :: r => by
    unfold insS
    split
    · exact ((insS_perm x r).cons y).trans (.swap ..)
    · exact .refl _
theorem srt_perm : ∀ r, (srt r).Perm r
  | [] => .refl _
  | x :: r => (insS_perm x (srt r)).trans ((srt_perm r).cons x)
theorem insS_asc {x : List Nat} : ∀ {r : List (List Nat)}, Asc r → Asc (insS x r)
  | [], _ => ⟨by simp, trivial⟩
  | y :: r, ⟨h1, h2⟩ => by
    unfold insS
    split
    · rename_i h
      refine ⟨fun z hz => ?_, insS_asc h2⟩
      rcases List.mem_cons.mp ((insS_perm x r).mem_iff.mp hz) with e | e
      · rw [e]; exact fun q => List.lt_irrefl _ (List.lt_trans q h)
      · exact h1 z e
    · rename_i h
      refine ⟨fun z hz => ?_, h1, h2⟩
      rcases List.mem_cons.mp hz with e | e
      · rw [e]; exact h
      · exact fun q => absurd (List.lt_of_le_of_lt (List.not_lt.mp (h1 z e)) q) h
theorem srt_asc : ∀ r, Asc (srt r)
  | [] => trivial
  | x :: r => insS_asc (srt_asc r)
theorem asc_unique : ∀ {a b : List (List Nat)}, Asc a → Asc b → a.Perm b → a = b
  | [], b, _, _, p => by rw [List.perm_nil.mp p.symm]
  | x :: r, b, ⟨h1, h2⟩, hb, p => by
    cases b with
    | nil => exact absurd p.length_eq (by simp)
    | cons y t =>
      obtain ⟨g1, g2⟩ := hb
      have e : x = y := by
        have hx : x ∈ y :: t := p.mem_iff.mp (by simp)
        have hy : y ∈ x :: r := p.mem_iff.mpr (by simp)
        rcases List.mem_cons.mp hx with e | e
        · exact e
        · rcases List.mem_cons.mp hy with e' | e'
          · exact e'.symm
          · exact List.le_antisymm (List.not_lt.mp (h1 y e')) (List.not_lt.mp (g1 x e))
      subst e
      rw [asc_unique h2 g2 ((List.perm_cons _).mp p)]
theorem srt_eq {a b : List (List Nat)} (p : a.Perm b) : srt a = srt b := asc_unique (srt_asc a) (srt_asc b) (((srt_perm a).trans p).trans (srt_perm b).symm)
theorem srt_len (r : List (List Nat)) : (srt r).length = r.length := (srt_perm r).length_eq
theorem srt_mem {r : List (List Nat)} {x : List Nat} : x ∈ srt r ↔ x ∈ r := (srt_perm r).mem_iff
theorem asc_cons2 {x y : List Nat} {r : List (List Nat)} (h1 : ¬ y < x) (h2 : Asc (y :: r)) : Asc (x :: y :: r) := by
  refine ⟨fun z hz => ?_, h2⟩
  rcases List.mem_cons.mp hz with e | e
  · rw [e]; exact h1
  · exact fun q => h1 (List.lt_of_le_of_lt (List.not_lt.mp (h2.1 z e)) q)
theorem asc_ris : ∀ {r : List (List Nat)} {x : List Nat}, PyProof.Rows.risingS ⟨x.toArray⟩ (r.map fun s => (⟨s.toArray⟩ : Str)) = true → Asc (x :: r)
  | [], _, _ => ⟨by simp, trivial⟩
  | y :: r, x, h => by
    simp only [List.map_cons, PyProof.Rows.risingS, Bool.and_eq_true] at h
    obtain ⟨h1, h2⟩ := h
    refine asc_cons2 ?_ (asc_ris h2)
    rw [PyProof.Rows.ltCps_eq] at h1
    simpa using h1
theorem asc_of : ∀ {r : List (List Nat)}, PyProof.Rows.sortedS (r.map fun s => (⟨s.toArray⟩ : Str)) = true → Asc r
  | [], _ => trivial
  | x :: r, h => asc_ris h
def sortH {Q : R → Prop} (ds : List D) (_ : Hid Q) : Prop := pSortT [.lst ds] Q
theorem x_sort {ds Q} : pSortT [.lst ds] Q = sortH ds (@hid _ Q) := rfl
theorem sort_ok {ds : List D} {r : List (List Nat)} {Q : R → Prop} (h : ds = r.map D.str) (hl : r.length < 64) (q : Q (.own ((srt r).map D.str))) : sortH ds (@hid _ Q) := by
  subst h
  show pSortT _ _
  unfold pSortT
  simp only [strL_map]
  refine ⟨hl, fun r' p s => ?_⟩
  rw [asc_unique (asc_of s) (srt_asc r) (p.trans (srt_perm r).symm)]
  exact q
def sortSH {Q : R → Prop} (w : List Nat) (_ : Hid Q) : Prop := pSortT [.str w] Q
theorem x_sortS {w Q} : pSortT [.str w] Q = sortSH w (@hid _ Q) := rfl
theorem sortS_ok {w : List Nat} {Q : R → Prop} (hl : w.length < 64) (q : Q (.own ((srt (w.map fun c => [c])).map D.str))) : sortSH w (@hid _ Q) := by
  refine ⟨hl, fun r' p s => ?_⟩
  rw [asc_unique (asc_of s) (srt_asc _) (p.trans (srt_perm _).symm)]
  exact q
end Pu
set_option maxRecDepth 100000
set_option maxHeartbeats 4000000
namespace Pu
open PySem L2
theorem m_ext {ds zs K} : mExtend ds [.lst zs] K = (ds.length + zs.length ≤ sizeLine ∧ K (ds ++ zs) .non) := rfl
theorem m_rev {ds K} : mReverse ds [] K = K ds.reverse .non := rfl
def enF {α : Type} : Nat → List α → List (Nat × α)
  | _, [] => []
  | i, a :: l => (i, a) :: enF (i + 1) l
theorem enF_len {α : Type} : ∀ (l : List α) (i : Nat), (enF i l).length = l.length
  | [], _ => rfl
  | a :: l, i => by simp [enF, enF_len l]
theorem enF_get {α : Type} : ∀ (l : List α) (k i : Nat), (enF k l)[i]? = l[i]?.map fun a => (k + i, a)
  | [], _, _ => by simp [enF]
  | a :: l, k, 0 => by simp [enF]
  | a :: l, k, i + 1 => by
    have e1 : k + 1 + i = k + (i + 1) := by omega
    rw [enF, List.getElem?_cons_succ, List.getElem?_cons_succ, enF_get l (k + 1) i, e1]
theorem enF_map {α : Type} (f : α → D) : ∀ (l : List α) (i : Nat), enumF i (l.map f) = (enF i l).map fun p => .tup [.int (p.1 : Nat), f p.2]
  | [], _ => rfl
  | a :: l, i => by
    rw [List.map_cons, enumF, enF, List.map_cons, enF_map f l (i + 1)]
theorem enF_signs (w : List Nat) (i : Nat) : enumF i (signs w) = (enF i w).map fun p => .tup [.int (p.1 : Nat), .str [p.2]] := enF_map (fun c => .str [c]) w i
theorem enF_mem {α : Type} {l : List α} {k : Nat} {p : Nat × α} (h : p ∈ enF k l) : ∃ i, l[i]? = some p.2 ∧ p.1 = k + i := by
  obtain ⟨i, hi⟩ := List.mem_iff_getElem?.mp h
  rw [enF_get] at hi
  cases q : l[i]? with
  | none => rw [q] at hi; cases hi
  | some a => rw [q] at hi; cases hi; exact ⟨i, q, rfl⟩
theorem perm_unmap {α β : Type} {f : α → β} {ys zs : List β} (p : ys.Perm zs) : ∀ {l : List α}, zs = l.map f → ∃ v : List α, ys = v.map f ∧ v.Perm l := by
  induction p with
  | nil => intro l h; cases l with | nil => exact ⟨[], rfl, .refl _⟩ | cons _ _ => cases h
  | cons x p ih =>
    intro l h
    cases l with
    | nil => cases h
    | cons a l =>
      rw [List.map_cons] at h
      cases h
      obtain ⟨v, rfl, hv⟩ := ih rfl
      exact ⟨a :: v, rfl, hv.cons a⟩
  | swap x y l' =>
    intro l h
    cases l with
    | nil => cases h
    | cons a l =>
      cases l with
      | nil => cases h
      | cons b l =>
        cases h
        exact ⟨b :: a :: l, rfl, .swap ..⟩
  | trans p q ih1 ih2 =>
    intro l h
    obtain ⟨v, e, hv⟩ := ih2 h
    obtain ⟨u, e', hu⟩ := ih1 e
    exact ⟨u, e', hu.trans hv⟩
theorem All2.snoc {α β : Type} {R : α → β → Prop} {a : α} {b : β} : ∀ {as : List α} {bs : List β}, All2 R as bs → R a b → All2 R (as ++ [a]) (bs ++ [b])
  | _, _, .nil, r => .cons r .nil
  | _, _, .cons h t, r => .cons h (t.snoc r)
theorem All2.get {α β : Type} {R : α → β → Prop} : ∀ {as : List α} {bs : List β} {i : Nat} {a : α}, All2 R as bs → as[i]? = some a → ∃ b, bs[i]? = some b ∧ R a b
  | _, _, 0, _, .cons h t, e => by simp at e; subst e; exact ⟨_, rfl, h⟩
  | _, _, i + 1, _, .cons h t, e => by
    obtain ⟨b, h1, h2⟩ := All2.get (i := i) t (by simpa using e)
    exact ⟨b, by simpa using h1, h2⟩
theorem All2.get' {α β : Type} {R : α → β → Prop} : ∀ {as : List α} {bs : List β} {i : Nat} {b : β}, All2 R as bs → bs[i]? = some b → ∃ a, as[i]? = some a ∧ R a b
  | _, _, 0, _, .cons h t, e => by simp at e; subst e; exact ⟨_, rfl, h⟩
  | _, _, i + 1, _, .cons h t, e => by
    obtain ⟨b, h1, h2⟩ := All2.get' (i := i) t (by simpa using e)
    exact ⟨b, by simpa using h1, h2⟩
/-- comprehensions over mapped lists -/
theorem lcR_fm {α : Type} {g : PTG} {tt : PTT} {te : PTE} {vs : List Nat} {e : En} {Q : List D → En → Prop} (g0 : α → D) (p : α → Bool) (f : α → D) :
    ∀ (l : List α) (acc : List D), (∀ a ∈ l, ∀ K : Option D → En → Prop, K (if p a = true then some (f a) else none) e → g (g0 a) e fun e1 => tt noX e1 fun b e2 => if b = true then te noX e2 fun r e3 => fz r e3 fun y e4 => K (some y) (wipeE vs e4) else K none (wipeE vs e2)) →
      Q (acc ++ (l.filter p).map f) e → lcR g tt te vs (l.map g0) acc e Q
  | [], acc, _, k => by rw [List.filter_nil, List.map_nil, List.append_nil] at k; exact k
  | a :: l, acc, h, k => by
    refine h a (by simp) (fun o e' => match o with | some y => lcR g tt te vs (l.map g0) (acc ++ [y]) e' Q | none => lcR g tt te vs (l.map g0) acc e' Q) ?_
    by_cases hp : p a = true
    · rw [if_pos hp]
      refine lcR_fm g0 p f l (acc ++ [f a]) (fun d' hd => h d' (List.mem_cons_of_mem _ hd)) ?_
      rw [List.filter_cons_of_pos hp, List.map_cons] at k
      rw [List.append_assoc]
      exact k
    · rw [if_neg hp]
      refine lcR_fm g0 p f l acc (fun d' hd => h d' (List.mem_cons_of_mem _ hd)) ?_
      rw [List.filter_cons_of_neg hp] at k
      exact k
theorem lcH_fm {α : Type} {g : PTG} {tt : PTT} {te : PTE} {vs : List Nat} {e : En} {Q : List D → En → Prop} {l : List α} {g0 : α → D} (p : α → Bool) (f : α → D) (h : ∀ a ∈ l, ∀ K : Option D → En → Prop, K (if p a = true then some (f a) else none) e → g (g0 a) e fun e1 => tt noX e1 fun b e2 => if b = true then te noX e2 fun r e3 => fz r e3 fun y e4 => K (some y) (wipeE vs e4) else K none (wipeE vs e2)) (q : Q ((l.filter p).map f) e) : lcH (l.map g0) e (@hid _ (g, tt, te, vs, Q)) :=
  lcR_fm g0 p f l [] h (by simpa using q)
theorem lcH_mm {α : Type} {g : PTG} {te : PTE} {vs : List Nat} {e : En} {Q : List D → En → Prop} {l : List α} {g0 : α → D} (f : α → D) (h : ∀ a ∈ l, ∀ K : D → En → Prop, K (f a) e → g (g0 a) e fun e1 => te noX e1 fun r e3 => fz r e3 fun y e4 => K y (wipeE vs e4)) (q : Q (l.map f) e) : lcH (l.map g0) e (@hid _ (g, cYes, te, vs, Q)) := by
  refine lcR_fm g0 (fun _ => true) f l [] (fun a ha K k => ?_) ?_
  · have k : K (some (f a)) e := k
    exact h a ha (fun y e' => K (some y) e') k
  · have : l.filter (fun _ => true) = l := List.filter_eq_self.mpr fun _ _ => rfl
    rw [this]
    simpa using q
theorem any_signs {c : Nat} {w : List Nat} : ((signs w).any fun z => D.eq z (.str [c])) = decide (c ∈ w) := by
  unfold signs
  rw [List.any_map]
  induction w with
  | nil => simp
  | cons x w ih =>
    rw [List.any_cons, ih, Bool.eq_iff_iff]
    simp only [Function.comp, e_ss, Bool.or_eq_true, decide_eq_true_eq, List.mem_cons, List.cons.injEq, and_true]
    exact ⟨fun h => h.imp Eq.symm id, fun h => h.imp Eq.symm id⟩
theorem ixD_signs {c : Nat} : ∀ w : List Nat, ixD (.str [c]) (signs w) = ixOf c w
  | [] => rfl
  | x :: w => by
    show (if D.eq (.str [x]) (.str [c]) = true then 0 else ixD (.str [c]) (signs w) + 1) = if x = c then 0 else ixOf c w + 1
    rw [ixD_signs w, e_ss]
    simp
theorem okL_signs (w : List Nat) (n : Nat) : D.okL (signs w) n = true := okL_map fun _ _ => rfl
theorem ixOf_lt {c : Nat} {l : List Nat} (h : c ∈ l) : ixOf c l < l.length := (List.getElem?_eq_some_iff.mp (ixOf_spec h).1).1
end Pu
set_option maxRecDepth 100000
set_option maxHeartbeats 4000000
namespace Pu
open PySem L2
/-! ### sorted pairs -/
def sortPH {Q : R → Prop} (d : D) (_ : Hid Q) : Prop := pSortP [d] Q
theorem x_sortP {d Q} : pSortP [d] Q = sortPH d (@hid _ Q) := rfl
def nI (p : Nat × Nat) : Int × Int := ((p.1 : Int), (p.2 : Int))
def lexN (p q : Nat × Nat) : Prop := p.1 < q.1 ∨ (p.1 = q.1 ∧ p.2 ≤ q.2)
theorem lex_of {p q : Nat × Nat} : SrtO.lexB (nI q) (nI p) = false ↔ lexN p q := by
  rw [SrtO.lexB_no]
  unfold nI lexN
  simp only
  omega
theorem lexN_anti {p q : Nat × Nat} (h1 : lexN p q) (h2 : lexN q p) : p = q := by
  unfold lexN at h1 h2
  exact Prod.ext (by omega) (by omega)
theorem lex_unique : ∀ {a b : List (Nat × Nat)}, a.Pairwise lexN → b.Pairwise lexN → a.Perm b → a = b
  | [], b, _, _, p => by rw [List.perm_nil.mp p.symm]
  | x :: r, b, ha, hb, p => by
    rw [List.pairwise_cons] at ha
    cases b with
    | nil => exact absurd p.length_eq (by simp)
    | cons y t =>
      rw [List.pairwise_cons] at hb
      have e : x = y := by
        have hx : x ∈ y :: t := p.mem_iff.mp (by simp)
        have hy : y ∈ x :: r := p.mem_iff.mpr (by simp)
        rcases List.mem_cons.mp hx with e | e
        · exact e
        · rcases List.mem_cons.mp hy with e' | e'
          · exact e'.symm
          · exact lexN_anti (ha.1 y e') (hb.1 x e)
      subst e
      rw [lex_unique ha.2 hb.2 ((List.perm_cons _).mp p)]
theorem prL_sd (f : Nat × Nat → D) (hf : ∀ p, f p = .tup [.int (p.1 : Nat), .int (p.2 : Nat)]) : ∀ o : List (Nat × Nat), prL (o.map f) = some (o.map nI)
  | [] => rfl
  | p :: o => by
    rw [List.map_cons, hf p]
    simp only [prL]
    rw [prL_sd f hf o]
    rfl
theorem sortP_ok {f : Nat × Nat → D} (hf : ∀ p, f p = .tup [.int (p.1 : Nat), .int (p.2 : Nat)]) {d : D} {ds : List D} {o t : List (Nat × Nat)} {Q : R → Prop} (hd : d.seqs = some ds) (h : ds = o.map f) (ht : t.Perm o) (hs : t.Pairwise lexN) (q : Q (.own (t.map f))) : sortPH d (@hid _ Q) := by
  subst h
  show pSortP [d] Q
  unfold pSortP
  simp only [hd, prL_sd f hf]
  intro qs hp hps
  obtain ⟨v, rfl, hv⟩ := perm_unmap hp rfl
  have e : v = t := lex_unique (by
    rw [List.pairwise_map] at hps
    exact hps.imp fun h => lex_of.mp h) hs (hv.trans ht.symm)
  subst e
  have e2 : (v.map nI).map pr2 = v.map f := by
    rw [List.map_map]
    apply List.map_congr_left
    intro p _
    show D.tup [.int (p.1 : Int), .int (p.2 : Int)] = f p
    rw [hf p]
  rw [e2]
  exact q
end Pu
set_option maxRecDepth 100000
set_option maxHeartbeats 4000000
namespace Pu
open PySem L2
/-! ### stepping: zip, sum, count, += -/
theorem a_slR {n lo hi Q} : pSl (.scr n) lo hi Q = ∀ ns : List Int, ns.length = (cut (List.range n) lo hi).length → Q (.own (ns.map D.int)) := rfl
def twoR {f : R → R → Prop} (rs : List R) (_ : Hid f) : Prop := match rs with
  | [r1, r2] => f r1 r2
  | _ => False
theorem twoR_2 {r1 r2 f} : twoR [r1, r2] (@hid _ f) = f r1 r2 := rfl
def sideH {f : List D → Prop} (d : D) (_ : Hid f) : Prop := match d.side with
  | some (_, ds) => f ds
  | none => False
theorem side_l {ds f} : sideH (.lst ds) (@hid _ f) = f ds := rfl
theorem side_t {ds f} : sideH (.tup ds) (@hid _ f) = f ds := rfl
theorem x_zip {t x e Q} : iZipP t x e Q = t x e fun rs e1 => twoR rs <| @hid _ fun r1 r2 => fz r1 e1 fun d1 e2 => fz r2 e2 fun d2 e3 => sideH d1 <| @hid _ fun ds => sideH d2 <| @hid _ fun es => Q (zipF ds es) e3 := by
  unfold iZipP twoR sideH
  congr 1; funext rs e1
  match rs with
  | [] => rfl
  | [r] => rfl
  | [r1, r2] =>
    show fz r1 e1 _ = fz r1 e1 _
    congr 1; funext d1 e2
    congr 1; funext d2 e3
    cases d1.side with
    | none => cases d2.side <;> rfl
    | some p => cases d2.side <;> rfl
  | _ :: _ :: _ :: _ => rfl
def sumH {Q : R → Prop} (ds : List D) (_ : Hid Q) : Prop := pSum [.lst ds] Q
theorem x_sum {ds Q} : pSum [.lst ds] Q = sumH ds (@hid _ Q) := rfl
theorem sum_ok {ds : List D} {ns : List Int} {Q : R → Prop} (h : ds = ns.map D.int) (q : Q (.d (.int ns.sum))) : sumH ds (@hid _ Q) := by
  subst h
  show pSum _ _
  unfold pSum
  simp only [intL_map]
  exact q
theorem a_count {l c Q} : pCount (.str l) [.str [c]] Q = Q (.d (.int (l.count c : Nat))) := rfl
def augC {i : Nat} {te : PTE} {x : PX} {P : PEn} {e : En} (c : C) (_ : Hid (i, te, x, P, e)) : Prop := match c with
  | .d (.int a) => te x e fun r e1 => match rv r e1 with
    | some (.int b) => i < e1.sl.length ∧ P.nx (e1.setC i (.d (.int (a + b))))
    | _ => False
  | _ => False
theorem augC_i {i te x P e a} : augC (.d (.int a)) (@hid _ (i, te, x, P, e)) = te x e fun r e1 => opt (rv r e1) <| @hid _ fun d => iC d <| @hid _ fun b => i < e1.sl.length ∧ P.nx (e1.setC i (.d (.int (a + b)))) := by
  show te x e _ = te x e _
  congr 1; funext r e1
  unfold opt iC
  cases rv r e1 with
  | none => rfl
  | some d => cases d <;> rfl
theorem x_aug {i te x P e} : sAug i te x P e = (opt e.sl[i]? <| @hid _ fun c => augC c (@hid _ (i, te, x, P, e))) := by
  unfold sAug opt augC
  cases e.sl[i]? with
  | none => rfl
  | some c =>
    cases c with
    | d d => cases d <;> rfl
    | _ => rfl
end Pu
set_option maxRecDepth 100000
set_option maxHeartbeats 4000000
namespace Pu
open PySem L2
def twoD {f : D → D → Prop} (ds : List D) (_ : Hid f) : Prop := match ds with
  | [d1, d2] => f d1 d2
  | _ => False
theorem twoD_2 {d1 d2 f} : twoD [d1, d2] (@hid _ f) = f d1 d2 := rfl
theorem x_par {i j t x P e} : sPar i j t x P e = t x e fun ds e1 => twoD ds <| @hid _ fun d1 d2 => i < e1.sl.length ∧ j < e1.sl.length ∧ P.nx ((e1.setC i (.d d1)).setC j (.d d2)) := by
  unfold sPar twoD
  rfl
/-! ### stepping: exceptions -/
theorem x_raise {c n t x D e} : sRaise c n t x D e = t x e fun ds e1 => ds.length = n ∧ x ⟨c, ds⟩ e1.st := rfl
theorem x_callX {m t x e Q} : tCallX m t x e Q = t x e fun ds e1 => m ds e1.st (fun c st' => Q c.toR ⟨e1.sl, st'⟩) x := rfl
/-- what the clause does with an exception -/
def trH {ts : PTS} {D : PEn} (n i : Nat) (fl : Nat → List Str) (cb : Nat → Bool) (_ : Hid (ts, D)) : PX := fun ex st => cb ex.c = true ∧ ts noX { nx := fun e' => D.nx (wipeE [i] e'), rt := D.rt, bk := fun e' => D.bk (wipeE [i] e'), ct := fun e' => D.ct (wipeE [i] e') } ⟨(List.replicate n C.un).set i (.d (.exc ex.c (fl ex.c) ex.ds)), st⟩
def noOwn (l : List C) : Prop := (l.all fun c => !c.isOwn) = true
theorem ow_nil : noOwn [] = True := by simp [noOwn]
theorem ow_un {l} : noOwn (.un :: l) = noOwn l := by simp [noOwn, C.isOwn]
theorem ow_d {d l} : noOwn (.d d :: l) = noOwn l := by simp [noOwn, C.isOwn]
theorem x_try {n i fl cb tb ts x D e} : sTry n i fl cb tb ts x D e = (noOwn e.sl ∧ i < n ∧ tb (trH n i fl cb (@hid _ (ts, D))) D e) := rfl
theorem trH_eq {n i fl cb ts D ex st} : trH n i fl cb (@hid _ (ts, D)) ex st = (cb ex.c = true ∧ ts noX { nx := fun e' => D.nx (wipeE [i] e'), rt := D.rt, bk := fun e' => D.bk (wipeE [i] e'), ct := fun e' => D.ct (wipeE [i] e') } ⟨(List.replicate n C.un).set i (.d (.exc ex.c (fl ex.c) ex.ds)), st⟩) := rfl
theorem x_subA {to ti dv x e Q} : subA to ti dv x e Q = to x e fun ro e3 => hold ro e3 fun ro e3 => ti x e3 fun ri e4 => opt (rv ri e4) <| @hid _ fun d => iC d <| @hid _ fun i => setAt ro dv i e4 Q := by
  unfold subA opt iC
  congr 1; funext ro e3; congr 1; funext ro e3; congr 1; funext ri e4
  cases rv ri e4 with
  | none => rfl
  | some d => cases d <;> rfl
theorem x_setN {k dv i e Q} : setAt (.nam k) dv i e Q = (opt (mget (.nam k) e) <| @hid _ fun ds => opt (ixN ds.length i) <| @hid _ fun j => Q (mset (.nam k) e (ds.set j dv))) := by
  unfold opt
  show (match mget (.nam k) e with | some ds => (match ixN ds.length i with | some j => Q (mset (.nam k) e (ds.set j dv)) | none => False) | none => False) = _
  cases mget (.nam k) e with
  | none => rfl
  | some ds =>
    simp only
    cases ixN ds.length i <;> rfl
def D.two : D → Option (D × D)
  | .tup [a, b] => some (a, b)
  | _ => none
theorem a_two {a b : D} : D.two (.tup [a, b]) = some (a, b) := rfl
theorem x_swIx {te to ti to2 ti2 x P e} : sSwIx te to ti to2 ti2 x P e = te x e fun r0 e1 => fz r0 e1 fun dv e2 => opt dv.two <| @hid _ fun p => subA to ti p.1 x e2 fun e3 => subA to2 ti2 p.2 x e3 P.nx := by
  unfold sSwIx opt
  congr 1; funext r0 e1; congr 1; funext dv e2
  split
  · rfl
  · rename_i h
    cases hd : D.two dv with
    | none => rfl
    | some p =>
      unfold D.two at hd
      split at hd
      · exact absurd rfl (h _ _)
      · cases hd
theorem x_mkX {c ns t x e Q} : tMkX c ns t x e Q = t x e fun ds e1 => ds.length = ns.length ∧ Q (.d (.exc c ns ds)) e1 := rfl
theorem x_mk0 {c x e Q} : tMk0 c x e Q = Q (.d (.exc c [] [])) e := rfl
theorem x_raise0 {c x D e} : sRaise0 c x D e = x ⟨c, []⟩ e.st := rfl
def D.exB (tb : Nat → Option Bool) : D → Option Bool
  | .exc c _ _ => tb c
  | _ => none
theorem a_exB {tb c ns ds} : D.exB tb (.exc c ns ds) = tb c := rfl
theorem a_tbl {bs c} : tbl bs c = bs[c]? := rfl
theorem a_cbl {n c} : cbl n c = decide (c < n) := rfl
theorem x_isX {tb te x e Q} : tIsX tb te x e Q = te x e fun r e1 => opt (rv r e1) <| @hid _ fun d => opt (d.exB tb) <| @hid _ fun b => Q (.d (.bl b)) e1 := by
  unfold tIsX opt
  congr 1; funext r e1
  cases rv r e1 with
  | none => rfl
  | some d =>
    cases d with
    | exc c ns ds =>
      simp only [D.exB]
      cases tb c <;> rfl
    | _ => rfl
def D.exA (n : Str) (cb : Nat → Bool) : D → Option D
  | .exc c ns ds => if cb c = true then xlk n ns ds else none
  | _ => none
theorem x_xattr {n cb te x e Q} : tXA n cb te x e Q = te x e fun r e1 => opt (rv r e1) <| @hid _ fun d => opt (d.exA n cb) <| @hid _ fun y => Q (.d y) e1 := by
  unfold tXA opt
  congr 1; funext r e1
  cases rv r e1 with
  | none => rfl
  | some d =>
    cases d with
    | exc c ns ds =>
      simp only [D.exA]
      cases cb c with
      | false => exact propext ⟨fun h => absurd h.1 Bool.false_ne_true, fun h => h.elim⟩
      | true =>
        simp only [true_and, if_true]
        cases xlk n ns ds <;> rfl
    | _ => rfl
theorem exA_one {n : Str} {cb : Nat → Bool} {c : Nat} {d : D} (h : cb c = true) : D.exA n cb (.exc c [n] [d]) = some d := by
  simp [D.exA, h, xlk, List.lookup]
theorem exA_eq {n : Str} {cb : Nat → Bool} {c : Nat} {ns : List Str} {ds : List D} {d : D} (h : cb c = true) (e : xlk n ns ds = some d) : D.exA n cb (.exc c ns ds) = some d := by
  simp [D.exA, h, e]
theorem xlk_one {n : Str} {d : D} : xlk n [n] [d] = some d := by simp [xlk, List.lookup]
theorem xlk_snd {n m : Str} {d d' : D} : xlk n [m, n] [d, d'] = some d' := by simp [xlk, List.lookup]
theorem xlk_fst {n m : Str} {d d' : D} (h : (n == m) = false) : xlk n [n, m] [d, d'] = some d := by simp [xlk, List.lookup, h]
end Pu
set_option maxRecDepth 100000
set_option maxHeartbeats 4000000
namespace Pu
open PySem L2
/-! ### letters -/
def IsL (c : Nat) : Prop := (65 ≤ c ∧ c ≤ 90) ∨ (97 ≤ c ∧ c ≤ 122)
instance (c : Nat) : Decidable (IsL c) := by unfold IsL; infer_instance
def con (c : Nat) : Nat := if 97 ≤ c then c - 32 else c + 32
theorem con_con {c : Nat} (h : IsL c) : con (con c) = c := by unfold con IsL at *; split <;> split <;> omega
theorem con_L {c : Nat} (h : IsL c) : IsL (con c) := by unfold con IsL at *; split <;> omega
theorem con_ne {c : Nat} (h : IsL c) : con c ≠ c := by unfold con IsL at *; split <;> omega
def m_contrary : PM := fun ds st Q => match ds with
  | [.str [c]] => IsL c ∧ Q (.d (.str [con c])) st
  | _ => False

/-- contrary: slots letter -/
def t_contrary : PTS := sRet (t2 (t2 (tD (.str CP)) (tD (.str SM)) pAdd) (tMeth "str" pIndexS (t2 (tD (.str SM)) (tD (.str CP)) pAdd) (rCons (tName 0) (rNil))) pIx)
abbrev N_contrary : List Str := ["letter"]
theorem ixOf_SMCP {c : Nat} (h : IsL c) : c ∈ SM ++ CP ∧ atI (CP ++ SM) (ixOf c (SM ++ CP) : Nat) = some (con c) := by
  have key : ∀ n : Nat, n < 123 → IsL n → n ∈ SM ++ CP ∧ atI (CP ++ SM) (ixOf n (SM ++ CP) : Nat) = some (con n) := by decide +kernel
  exact key c (by unfold IsL at h; omega) h
theorem len_contrary (ds : List D) (s : Sto) (Q : C → Sto → Prop) (h : m_contrary ds s Q) : ds.length = 1 := by
  unfold m_contrary at h
  split at h
  · rfl
  · exact h.elim
theorem p_contrary (ds : List D) (s : Sto) (Q : C → Sto → Prop) (h : m_contrary ds s Q) : t_contrary noX { nx := fun e => Q (.d .non) e.st, rt := fun c e => Q c e.st } ⟨startC N_contrary ds, s⟩ := by
  unfold m_contrary at h
  split at h
  · rename_i c
    obtain ⟨hc, q⟩ := h
    obtain ⟨h1, h2⟩ := ixOf_SMCP hc
    refine ⟨by decide +kernel, by decide +kernel, rfl, h1, ?_⟩
    show (match atI (CP ++ SM) (ixOf c (SM ++ CP) : Nat) with | some c => Q (.d (.str [c])) s | none => False)
    rw [h2]
    exact q
  · exact h.elim
end Pu
set_option maxRecDepth 100000
set_option maxHeartbeats 4000000
namespace Pu
open PySem L2
def m_law_take : PM := fun ds st Q => match ds with
  | [.box, .int n] => 0 < n ∧ n < 2 ^ 64 ∧ ∀ d : Int, 0 ≤ d → d < n → Q (.d (.int d)) st
  | _ => False
/-- _law_take: slots _law_box_here, _law_many, _law_one, _law_digit -/
def t_law_take : PTS := sSeq (sIf (tB (t2 (t2 (tName 0) (tD (.int 0)) pIx) (tD (.int 0)) pGt)) (sSeq (sAsg 3 (t2 (t2 (tName 0) (tD (.int 0)) pIx) (tName 1) pMod)) (sSeq (sSetIx (t2 (t2 (tName 0) (tD (.int 0)) pIx) (tName 1) pFdiv) (tName 0) (tD (.int 0))) (sRet (tName 3)))) (sNext)) (sSeq (sAsg 2 (t2 (t2 (t2 (tName 0) (tD (.int 1)) pIx) (tD (.int 69623)) pMul) (tD (.int 2147483647)) pMod)) (sSeq (sSetIx (t2 (t2 (t2 (t2 (tName 2) (tD (.int 48271)) pMul) (tD (.int 30103)) pAdd) (tD (.int 2147483629)) pMod) (tD (.int 1)) pAdd) (tName 0) (tD (.int 1))) (sRet (t2 (t2 (t2 (t2 (tName 2) (tD (.int 2147483647)) pMul) (t2 (tName 0) (tD (.int 1)) pIx) pAdd) (tD (.int 8191)) pFdiv) (tName 1) pMod))))
abbrev N_law_take : List Str := ["_law_box_here", "_law_many", "_law_one", "_law_digit"]
theorem len_law_take (ds : List D) (s : Sto) (Q : C → Sto → Prop) (h : m_law_take ds s Q) : ds.length = 2 := by
  unfold m_law_take at h
  split at h
  · rfl
  · exact h.elim
theorem small_log {n : Int} (h0 : 0 < n) (h : n < 2 ^ 64) : CDivW 0 n := by
  refine ⟨h0, ?_⟩
  have : n.natAbs.log2 < 64 := (Nat.log2_lt (by omega)).mpr (by omega)
  omega
theorem cmul_r (i j : Int) (h1 : -(2 ^ 64) < j := by decide) (h2 : j < 2 ^ 64 := by decide) : CMul i j := .inr ⟨h1, h2⟩
theorem cmul_l (i j : Int) (h1 : -(2 ^ 64) < i := by decide) (h2 : i < 2 ^ 64 := by decide) : CMul i j := .inl ⟨h1, h2⟩
theorem lt_of (a b : Nat) (h : a < b := by decide) : a < b := h
theorem p0 (a : Nat) (h : 0 < a := by decide) : (0 : Int) < (a : Int) := by omega
theorem ite_intro {c : Prop} [Decidable c] {a b : Prop} (h1 : c → a) (h2 : ¬ c → b) : if c then a else b := by
  by_cases h : c
  · rw [if_pos h]; exact h1 h
  · rw [if_neg h]; exact h2 h
theorem le_line (n : Nat) (h : n ≤ 16777216 := by decide) : n ≤ sizeLine := by rw [line_eq]; exact h
theorem p_law_take (ds : List D) (s : Sto) (Q : C → Sto → Prop) (h : m_law_take ds s Q) : t_law_take noX { nx := fun e => Q (.d .non) e.st, rt := fun c e => Q c e.st } ⟨startC N_law_take ds, s⟩ := by
  unfold m_law_take at h
  split at h
  · rename_i n
    obtain ⟨h0, h1, q⟩ := h
    have hq : ∀ i : Int, Q (.d (.int (i % n))) s := fun i => q _ (Int.emod_nonneg _ (by omega)) (Int.emod_lt_of_pos _ h0)
    refine ⟨.inl rfl, fun z => ?_⟩
    show if decide (z > 0) = true then _ else _
    split
    · refine ⟨.inl rfl, fun z1 => ⟨h0, lt_of 3 4, ?_⟩⟩
      refine ⟨.inl rfl, fun z2 => ⟨⟨h0, (small_log h0 h1).2⟩, ⟨.inl rfl, ?_⟩⟩⟩
      exact hq z1
    · refine ⟨.inr rfl, fun z1 => ⟨cmul_r _ _, p0 2147483647, lt_of 2 4, ?_⟩⟩
      refine ⟨cmul_r _ _, p0 2147483629, ⟨.inr rfl, ?_⟩⟩
      refine ⟨cmul_r _ _, .inr rfl, fun z2 => ⟨⟨by decide, by decide⟩, h0, ?_⟩⟩
      exact hq _
  · exact h.elim
/-! ### the box -/
def mb_law_box : PM := fun ds st Q => match ds with
  | [.scr n, .int k] => 0 ≤ k ∧ k < 2 ^ 40 ∧ ∀ i j : Int, Q (.own [.int i, .int j]) st
  | _ => False
def m_law_box : PM := fun ds st Q => match ds with
  | [.scr n, .int k] => 0 ≤ k ∧ k < 2 ^ 40 ∧ Q (.d .box) st
  | _ => False
theorem len_law_box (ds : List D) (s : Sto) (Q : C → Sto → Prop) (h : mb_law_box ds s Q) : ds.length = 2 := by
  unfold mb_law_box at h
  split at h
  · rfl
  · exact h.elim
theorem box_law_box (ds : List D) (s : Sto) (Q : C → Sto → Prop) (h : m_law_box ds s Q) : boxed mb_law_box ds s Q := by
  unfold m_law_box at h
  split at h
  · exact ⟨h.1, h.2.1, fun i j => ⟨i, j, rfl, h.2.2⟩⟩
  · exact h.elim
def t_law_box : PTS := sSeq (sAsg 2 (t2 (t2 (tD (.int 7919)) (tName 1) pMul) (tD (.int 11)) pAdd)) (sSeq (sIf (tB (t2 (tName 1) (tCallP pLen (rCons (tName 0) (rNil))) pLt)) (sAsg 2 (t2 (tName 0) (tName 1) pIx)) (sIf (tB (t2 (tCallP pLen (rCons (tName 0) (rNil))) (tD (.int 0)) pGt)) (sAsg 2 (t2 (tName 2) (t2 (t2 (t2 (tName 0) (t2 (tName 1) (tCallP pLen (rCons (tName 0) (rNil))) pMod) pIx) (tD (.int 2147483629)) pMod) (tD (.int 69623)) pMul) pAdd)) (sNext))) (sSeq (sAsg 3 (t2 (t2 (t2 (t2 (t2 (tName 2) (tD (.int 2147483629)) pMod) (t2 (tD (.int 104729)) (tName 1) pMul) pAdd) (tD (.int 1)) pAdd) (tD (.int 5)) pPow) (tD (.int 2147483647)) pMod)) (sRet (tLst (tCons (t2 (tLst (tCons (tD (.int 0)) (tCons (tName 2) (tNil)))) (tCallP pInt (rCons (t2 (tName 2) (t2 (tD (.int 10)) (tD (.int 18)) pPow) pGe) (rNil))) pIx) (tCons (t2 (t2 (tName 3) (tD (.int 2147483646)) pMod) (tD (.int 1)) pAdd) (tNil)))))))
abbrev N_law_box : List Str := ["_law_script", "_law_k", "_law_cell", "_law_seed"]
theorem p_law_box (ds : List D) (s : Sto) (Q : C → Sto → Prop) (h : mb_law_box ds s Q) : t_law_box noX { nx := fun e => Q (.d .non) e.st, rt := fun c e => Q c e.st } ⟨startC N_law_box ds, s⟩ := by
  unfold mb_law_box at h
  split at h
  · rename_i n k
    obtain ⟨h0, h1, q⟩ := h
    have tail : ∀ z : Int, sSeq (sAsg 3 (t2 (t2 (t2 (t2 (t2 (tName 2) (tD (.int 2147483629)) pMod) (t2 (tD (.int 104729)) (tName 1) pMul) pAdd) (tD (.int 1)) pAdd) (tD (.int 5)) pPow) (tD (.int 2147483647)) pMod)) (sRet (tLst (tCons (t2 (tLst (tCons (tD (.int 0)) (tCons (tName 2) (tNil)))) (tCallP pInt (rCons (t2 (tName 2) (t2 (tD (.int 10)) (tD (.int 18)) pPow) pGe) (rNil))) pIx) (tCons (t2 (t2 (tName 3) (tD (.int 2147483646)) pMod) (tD (.int 1)) pAdd) (tNil))))) noX { nx := fun e => Q (.d .non) e.st, rt := fun c e => Q c e.st } ⟨[.d (.scr n), .d (.int k), .d (.int z), .un], s⟩ := by
      intro z
      have m0 := Int.emod_nonneg z (b := 2147483629) (by omega)
      have m1 := Int.emod_lt_of_pos z (b := 2147483629) (by omega)
      refine ⟨p0 2147483629, cmul_l _ _, ⟨by decide, by decide, ?_⟩, p0 2147483647, lt_of 3 4, ?_⟩
      · omega
      refine ⟨le_line 2, ⟨by decide, by decide, by decide⟩, ?_⟩
      show (match atI [D.int 0, D.int z] (if decide (10 ^ 18 ≤ z) then 1 else 0) with | some y => _ | none => _)
      cases decide (10 ^ 18 ≤ z)
      · refine ⟨p0 2147483646, le_line 2, ?_⟩
        exact q 0 _
      · refine ⟨p0 2147483646, le_line 2, ?_⟩
        exact q z _
    refine ⟨cmul_l _ _, lt_of 2 4, ?_⟩
    refine ite_intro (fun c => ?_) fun c => ?_
    · have c := of_decide_eq_true c
      exact ⟨⟨h0, c⟩, fun z => ⟨lt_of 2 4, tail z⟩⟩
    · refine ite_intro (fun c' => ?_) fun c' => tail _
      have c' : (0 : Int) < n := of_decide_eq_true c'
      refine ⟨c', ⟨Int.emod_nonneg _ (by omega), Int.emod_lt_of_pos _ c'⟩, fun z => ⟨p0 2147483629, cmul_r _ _, lt_of 2 4, tail _⟩⟩
  · exact h.elim
/-! ### the other end of a letter, by the law -/
def m_law_other : PM := m_contrary
def t_law_other : PTS := sSeq (sAsg 1 (tD (.str SM))) (sSeq (sAsg 2 (tD (.str CP))) (sSeq (sIf (tB (t2 (tName 0) (tName 1) (pIn false))) (sRet (t2 (tName 2) (tMeth "str" pIndexS (tName 1) (rCons (tName 0) (rNil))) pIx)) (sNext)) (sRet (t2 (tName 1) (tMeth "str" pIndexS (tName 2) (rCons (tName 0) (rNil))) pIx))))
abbrev N_law_other : List Str := ["_law_letter", "_law_small", "_law_capital"]
theorem len_law_other (ds : List D) (s : Sto) (Q : C → Sto → Prop) (h : m_law_other ds s Q) : ds.length = 1 := len_contrary ds s Q h
theorem other_fact {c : Nat} (h : IsL c) : (c ∈ SM ∧ atI CP (ixOf c SM : Nat) = some (con c)) ∨ (¬ c ∈ SM ∧ c ∈ CP ∧ atI SM (ixOf c CP : Nat) = some (con c)) := by
  have key : ∀ n : Nat, n < 123 → IsL n → (n ∈ SM ∧ atI CP (ixOf n SM : Nat) = some (con n)) ∨ (¬ n ∈ SM ∧ n ∈ CP ∧ atI SM (ixOf n CP : Nat) = some (con n)) := by decide +kernel
  exact key c (by unfold IsL at h; omega) h
theorem p_law_other (ds : List D) (s : Sto) (Q : C → Sto → Prop) (h : m_law_other ds s Q) : t_law_other noX { nx := fun e => Q (.d .non) e.st, rt := fun c e => Q c e.st } ⟨startC N_law_other ds, s⟩ := by
  unfold m_law_other m_contrary at h
  split at h
  · rename_i c
    obtain ⟨hc, q⟩ := h
    refine ⟨lt_of 1 3, lt_of 2 3, ?_⟩
    refine ite_intro (fun c' => ?_) fun c' => ?_
    · have c' : c ∈ SM := of_decide_eq_true c'
      rcases other_fact hc with ⟨h1, h2⟩ | ⟨h1, _⟩
      · refine ⟨rfl, h1, ?_⟩
        show (match atI CP (ixOf c SM : Nat) with | some c => Q (.d (.str [c])) s | none => False)
        rw [h2]
        exact q
      · exact absurd c' h1
    · have c' : ¬ c ∈ SM := fun z => c' (decide_eq_true z)
      rcases other_fact hc with ⟨h1, h2⟩ | ⟨h1, h2, h3⟩
      · exact absurd h1 c'
      · refine ⟨rfl, h2, ?_⟩
        show (match atI SM (ixOf c CP : Nat) with | some c => Q (.d (.str [c])) s | none => False)
        rw [h3]
        exact q
  · exact h.elim
/-! ### a word turned -/
def turn (w : List Nat) : List Nat := (w.map con).reverse
def IsW (w : List Nat) : Prop := ∀ c ∈ w, IsL c
def m_turned : PM := fun ds st Q => match ds with
  | [.str w] => IsW w ∧ w.length ≤ 16777216 ∧ Q (.d (.str (turn w))) st
  | _ => False
def t_turned : PTS := sRet (tMeth "str" pJoin (tD (.str [])) (rCons (cLc (iRevP (tName 0)) (gName 1) (cYes) (tCall0 m_contrary (tCons (tName 1) (tNil))) [1]) (rNil)))
abbrev N_turned : List Str := ["word", "letter"]
theorem len_turned (ds : List D) (s : Sto) (Q : C → Sto → Prop) (h : m_turned ds s Q) : ds.length = 1 := by
  unfold m_turned at h
  split at h
  · rfl
  · exact h.elim
theorem p_turned (ds : List D) (s : Sto) (Q : C → Sto → Prop) (h : m_turned ds s Q) : t_turned noX { nx := fun e => Q (.d .non) e.st, rt := fun c e => Q c e.st } ⟨startC N_turned ds, s⟩ := by
  unfold m_turned at h
  split at h
  · rename_i w
    obtain ⟨hw, hl, q⟩ := h
    refine ⟨rfl, ?_⟩
    refine ⟨by rw [List.length_reverse, signs_len, line_eq]; exact hl, rfl, ?_⟩
    refine lcR_map (fun d => match d with | .str [c] => .str [con c] | d => d) _ _ (fun d hd K k => ?_) ?_
    · have hd := List.mem_reverse.mp hd
      unfold signs at hd
      obtain ⟨c, hc, rfl⟩ := List.mem_map.mp hd
      exact ⟨lt_of 1 2, hw c hc, k⟩
    · have e : (signs w).reverse.map (fun d => match d with | .str [c] => D.str [con c] | d => d) = signs (turn w) := by
        unfold signs turn
        rw [← List.map_reverse, List.map_map, ← List.map_reverse, List.map_map]
        rfl
      rw [List.nil_append, e]
      show (match strL (signs (turn w)) with | some r => _ | none => _)
      rw [strL_signs]
      refine ⟨len_signs (by unfold turn; simpa using hl), ?_⟩
      show Q (.d (.str (joinN [] ((turn w).map fun c => [c])))) s
      rw [joinN_signs]
      exact q
  · exact h.elim
theorem turn_turn {w : List Nat} (h : IsW w) : turn (turn w) = w := by
  unfold turn
  rw [List.map_reverse, List.reverse_reverse, List.map_map]
  conv => rhs; rw [← List.map_id w]
  exact List.map_congr_left fun c hc => con_con (h c hc)
theorem turn_W {w : List Nat} (h : IsW w) : IsW (turn w) := fun c hc => by
  unfold turn at hc
  rw [List.mem_reverse, List.mem_map] at hc
  obtain ⟨d, hd, rfl⟩ := hc
  exact con_L (h d hd)
theorem turn_len (w : List Nat) : (turn w).length = w.length := by unfold turn; simp
theorem turn_app (v w : List Nat) : turn (v ++ w) = turn w ++ turn v := by unfold turn; rw [List.map_append, List.reverse_append]
theorem W_app {v w : List Nat} (h : IsW v) (g : IsW w) : IsW (v ++ w) := fun c hc => (List.mem_append.mp hc).elim (h c) (g c)
theorem SMCP_L {c : Nat} (h : c ∈ SMCP) : IsL c := by
  have key : ∀ c ∈ SMCP, IsL c := by decide +kernel
  exact key c h
end Pu
set_option maxRecDepth 100000
set_option maxHeartbeats 4000000
namespace Pu
open PySem L2
theorem signs_erase (w : List Nat) (j : Nat) : (signs w).eraseIdx j = signs (w.eraseIdx j) := by
  unfold signs
  induction w generalizing j with
  | nil => rfl
  | cons c w ih => cases j with
    | zero => rfl
    | succ j => simp only [List.map_cons, List.eraseIdx_cons_succ, ih]
theorem signs_pop {w : List Nat} {i : Int} {K : List D → D → Prop} (h0 : 0 ≤ i) (h1 : i < w.length) (h : ∀ j (hj : j < w.length), K (signs (w.eraseIdx j)) (.str [w[j]])) : mPopAt (signs w) [.int i] K := by
  refine popAt_ok h0 (by rw [signs_len]; exact h1) fun j hj => ?_
  rw [signs_erase]
  have hj' : j < w.length := by rw [signs_len] at hj; exact hj
  have e : (signs w)[j] = .str [w[j]] := List.getElem_map (f := fun c => D.str [c]) (l := w) (i := j) (h := hj)
  rw [e]
  exact h j hj'
/-! ### a yard drawn -/
structure YardOk (y : List Nat) : Prop where
  nd : y.Nodup
  let_ : ∀ c ∈ y, IsL c
  con_ : ∀ c ∈ y, con c ∈ y
def m_law_yard : PM := fun ds st Q => match ds with
  | [.box, .int few, .int top] => 0 ≤ few ∧ few ≤ top ∧ top ≤ 26 ∧ ∀ y : List Nat, YardOk y → 2 * few ≤ y.length → y.length ≤ 2 * top → Q (.d (.str y)) st
  | _ => False
def t_law_yard : PTS := sSeq (sAsg 3 (tCallP pList (rCons (tD (.str SM)) (rNil)))) (sSeq (sAsg 4 (tLst (tNil))) (sSeq (sFor (iPure pRng1 (rCons (t2 (tName 1) (tCall0 m_law_take (tCons (tName 0) (tCons (t2 (t2 (tName 2) (tName 1) pSub) (tD (.int 1)) pAdd) (tNil)))) pAdd) (rNil))) (gName 5) (sSeq (sAsg 7 (tMut mPopAt (tName 3) (tCons (tCall0 m_law_take (tCons (tName 0) (tCons (tCallP pLen (rCons (tName 3) (rNil))) (tNil)))) (tNil)))) (sAsg 4 (t2 (tName 4) (tLst (tCons (tName 7) (tCons (tCall0 m_law_other (tCons (tName 7) (tNil))) (tNil)))) pAdd)))) (sSeq (sAsg 6 (tD (.str []))) (sSeq (sWhile (tB (t2 (tCallP pLen (rCons (tName 4) (rNil))) (tD (.int 0)) pGt)) (sAsg 6 (t2 (tName 6) (tMut mPopAt (tName 4) (tCons (tCall0 m_law_take (tCons (tName 0) (tCons (tCallP pLen (rCons (tName 4) (rNil))) (tNil)))) (tNil))) pAdd))) (sRet (tName 6))))))
abbrev N_law_yard : List Str := ["_law_box_here", "_law_few", "_law_top", "_law_left", "_law_ends", "_law_k", "_law_found", "_law_letter"]
theorem len_law_yard (ds : List D) (s : Sto) (Q : C → Sto → Prop) (h : m_law_yard ds s Q) : ds.length = 3 := by
  unfold m_law_yard at h
  split at h
  · rfl
  · exact h.elim
/-- the letters that are left, the ends that are taken -/
structure Yi (left ends : List Nat) (j : Nat) : Prop where
  nl : left.Nodup
  sm : ∀ c ∈ left, 97 ≤ c ∧ c ≤ 122
  ne : ends.Nodup
  le : ∀ c ∈ ends, IsL c ∧ con c ∈ ends ∧ c ∉ left ∧ con c ∉ left
  l1 : left.length + j = 26
  l2 : ends.length = 2 * j
theorem not_mem_erase {l : List Nat} (h : l.Nodup) {j : Nat} (hj : j < l.length) : l[j] ∉ l.eraseIdx j := by
  induction l generalizing j with
  | nil => simp at hj
  | cons a l ih =>
    rw [List.nodup_cons] at h
    cases j with
    | zero => simpa using h.1
    | succ j =>
      simp only [List.getElem_cons_succ, List.eraseIdx_cons_succ, List.mem_cons, not_or]
      have hj' : j < l.length := by simpa using hj
      exact ⟨fun e => h.1 (e ▸ List.getElem_mem hj'), ih h.2 hj'⟩
theorem mem_of_erase {l : List Nat} {j c : Nat} (h : c ∈ l.eraseIdx j) : c ∈ l := List.mem_of_mem_eraseIdx h
theorem Yi.step {left ends : List Nat} {j k : Nat} (h : Yi left ends j) (hk : k < left.length) : Yi (left.eraseIdx k) (ends ++ [left[k], con left[k]]) (j + 1) := by
  have hm : left[k] ∈ left := List.getElem_mem hk
  have hs := h.sm _ hm
  generalize hc : left[k] = c at hm hs
  have hcl : IsL c := .inr hs
  have hcon : con c < 97 := by unfold con; split <;> omega
  have nc : ∀ l : List Nat, (∀ x ∈ l, x ∈ left) → con c ∉ l := fun l hl z => by have := h.sm _ (hl _ z); omega
  have n1 : c ∉ ends := fun z => (h.le c z).2.2.1 hm
  have n2 : con c ∉ ends := fun z => by
    have := (h.le _ z).2.2.2
    rw [con_con hcl] at this
    exact this hm
  have e1 : c ∉ left.eraseIdx k := by rw [← hc]; exact not_mem_erase h.nl hk
  refine ⟨h.nl.sublist (List.eraseIdx_sublist ..), fun c hc => h.sm c (mem_of_erase hc), ?_, fun x hx => ?_, ?_, ?_⟩
  · rw [List.nodup_append]
    refine ⟨h.ne, ?_, ?_⟩
    · simp only [List.nodup_cons, List.mem_singleton, List.not_mem_nil, not_false_eq_true, List.nodup_nil, and_true]
      exact fun z => con_ne hcl z.symm
    · intro a ha b hb z
      subst z
      simp only [List.mem_cons, List.not_mem_nil, or_false] at hb
      rcases hb with rfl | rfl
      · exact n1 ha
      · exact n2 ha
  · rw [List.mem_append] at hx
    rcases hx with hx | hx
    · obtain ⟨g1, g2, g3, g4⟩ := h.le x hx
      exact ⟨g1, List.mem_append_left _ g2, fun z => g3 (mem_of_erase z), fun z => g4 (mem_of_erase z)⟩
    · simp only [List.mem_cons, List.not_mem_nil, or_false] at hx
      rcases hx with rfl | rfl
      · exact ⟨hcl, by simp, e1, nc _ fun x hx => mem_of_erase hx⟩
      · exact ⟨con_L hcl, by rw [con_con hcl]; simp, nc _ fun x hx => mem_of_erase hx, by rw [con_con hcl]; exact e1⟩
  · rw [List.length_eraseIdx_of_lt hk]; have := h.l1; omega
  · rw [List.length_append]; have := h.l2; simp; omega
theorem yi0 : Yi SM [] 0 := ⟨by decide +kernel, by decide +kernel, by simp, by simp, by decide, rfl⟩
theorem perm_erase {l : List Nat} {j : Nat} (hj : j < l.length) : l.Perm (l[j] :: l.eraseIdx j) := by
  induction l generalizing j with
  | nil => simp at hj
  | cons a l ih =>
    cases j with
    | zero => exact .refl _
    | succ j =>
      have hj' : j < l.length := by simpa using hj
      simp only [List.getElem_cons_succ, List.eraseIdx_cons_succ]
      exact ((ih hj').cons a).trans (.swap ..)
theorem p_law_yard (ds : List D) (s : Sto) (Q : C → Sto → Prop) (h : m_law_yard ds s Q) : t_law_yard noX { nx := fun e => Q (.d .non) e.st, rt := fun c e => Q c e.st } ⟨startC N_law_yard ds, s⟩ := by
  unfold m_law_yard at h
  split at h
  · rename_i few top
    obtain ⟨h0, h1, h2, q⟩ := h
    refine ⟨lt_of 3 8, le_line 0, lt_of 4 8, trivial, by omega, by omega, fun d hd0 hd1 => ?_⟩
    refine ⟨⟨by omega, by omega⟩, ?_⟩
    refine forR_inv (fun rest e => ∃ (left ends : List Nat) (j : Nat) (c5 c7 : C), e = ⟨[.d .box, .d (.int few), .d (.int top), .own (signs left), .own (signs ends), c5, .un, c7], s⟩ ∧ Yi left ends j ∧ j + rest.length = (few + d).toNat) ?_ ?_ _ _ ?_
    · rintro x r e ⟨left, ends, j, c5, c7, rfl, hy, hj⟩ N hN
      simp only [List.length_cons] at hj
      have l1 := hy.l1
      refine ⟨lt_of 5 8, rfl, ?_⟩
      refine ⟨by rw [signs_len]; omega, by rw [signs_len]; omega, fun i hi0 hi1 => ?_⟩
      rw [signs_len] at hi1
      refine signs_pop hi0 hi1 fun k hk => ?_
      refine ⟨lt_of 7 8, hy.sm _ (List.getElem_mem hk) |> .inr, le_line 2, ?_⟩
      refine ⟨?_, lt_of 4 8, ?_⟩
      · rw [signs_len, hy.l2, line_eq]
        simp
        omega
      · refine hN _ ⟨left.eraseIdx k, ends ++ [left[k], con left[k]], j + 1, .d x, .d (.str [left[k]]), ?_, hy.step hk, by omega⟩
        rw [← signs_app]
        rfl
    · rintro e ⟨left, ends, j, c5, c7, rfl, hy, hj⟩
      simp only [List.length_nil, Nat.add_zero] at hj
      refine ⟨lt_of 6 8, ?_⟩
      refine ⟨fun e => ∃ (rem found : List Nat), e = ⟨[.d .box, .d (.int few), .d (.int top), .own (signs left), .own (signs rem), c5, .d (.str found), c7], s⟩ ∧ (found ++ rem).Perm ends,
        fun e => match e.sl[4]? with | some (C.own l) => l.length | _ => 0, ⟨ends, [], rfl, .refl _⟩, ?_⟩
      rintro e ⟨rem, found, rfl, hp⟩
      have hlen : found.length + rem.length = 2 * j := by rw [← List.length_append, hp.length_eq, hy.l2]
      have l1 := hy.l1
      refine ite_intro (fun c => ?_) fun c => ?_
      · have c : (0 : Int) < (signs rem).length := of_decide_eq_true c
        rw [signs_len] at c
        refine ⟨rfl, ?_⟩
        refine ⟨by rw [signs_len]; exact c, by rw [signs_len]; omega, fun i hi0 hi1 => ?_⟩
        rw [signs_len] at hi1
        refine signs_pop hi0 hi1 fun k hk => ?_
        refine ⟨by rw [line_eq]; simp; omega, lt_of 6 8, ⟨rem.eraseIdx k, found ++ [rem[k]], rfl, ?_⟩, ?_⟩
        · rw [List.append_assoc]
          exact ((perm_erase hk).symm.append_left found).trans hp
        · show (signs (rem.eraseIdx k)).length < (signs rem).length
          rw [signs_len, signs_len, List.length_eraseIdx_of_lt hk]
          omega
      · have c : ¬ (0 : Int) < (signs rem).length := fun z => c (decide_eq_true z)
        rw [signs_len] at c
        have e0 : rem = [] := List.eq_nil_of_length_eq_zero (by omega)
        subst e0
        rw [List.append_nil] at hp
        simp only [List.length_nil] at hlen
        refine q found ⟨hp.nodup_iff.mpr hy.ne, fun c hc => (hy.le c (hp.mem_iff.mp hc)).1, fun c hc => hp.mem_iff.mpr (hy.le c (hp.mem_iff.mp hc)).2.1⟩ (by omega) (by omega)
    · exact ⟨SM, [], 0, _, _, rfl, yi0, by rw [rngI_length]; omega⟩
  · exact h.elim
/-! ### a word drawn -/
def m_law_word : PM := fun ds st Q => match ds with
  | [.box, .str y, .int top] => y ≠ [] ∧ y.length < 2 ^ 30 ∧ 0 ≤ top ∧ top ≤ 16777216 ∧ ∀ w : List Nat, (∀ c ∈ w, c ∈ y) → w.length ≤ top → Q (.d (.str w)) st
  | _ => False
def t_law_word : PTS := sRet (tMeth "str" pJoin (tD (.str [])) (rCons (cLc (iPure pRng1 (rCons (tCall0 m_law_take (tCons (tName 0) (tCons (t2 (tName 2) (tD (.int 1)) pAdd) (tNil)))) (rNil))) (gName 3) (cYes) (t2 (tName 1) (tCall0 m_law_take (tCons (tName 0) (tCons (tCallP pLen (rCons (tName 1) (rNil))) (tNil)))) pIx) [3]) (rNil)))
abbrev N_law_word : List Str := ["_law_box_here", "_law_yard_here", "_law_top", "_law_k"]
theorem len_law_word (ds : List D) (s : Sto) (Q : C → Sto → Prop) (h : m_law_word ds s Q) : ds.length = 3 := by
  unfold m_law_word at h
  split at h
  · rfl
  · exact h.elim
theorem all2_signs {α : Type} {P : Nat → Prop} : ∀ {as : List α} {ys : List D}, All2 (fun _ y => ∃ c, P c ∧ y = .str [c]) as ys → ∃ w : List Nat, ys = signs w ∧ (∀ c ∈ w, P c) ∧ w.length = as.length
  | [], _, .nil => ⟨[], rfl, by simp, rfl⟩
  | _ :: as, _, .cons ⟨c, hc, e⟩ h => by
    obtain ⟨w, e1, hw, hl⟩ := all2_signs h
    refine ⟨c :: w, by rw [e, e1]; rfl, fun d hd => ?_, by simp [hl]⟩
    rcases List.mem_cons.mp hd with rfl | hd
    · exact hc
    · exact hw d hd
theorem p_law_word (ds : List D) (s : Sto) (Q : C → Sto → Prop) (h : m_law_word ds s Q) : t_law_word noX { nx := fun e => Q (.d .non) e.st, rt := fun c e => Q c e.st } ⟨startC N_law_word ds, s⟩ := by
  unfold m_law_word at h
  split at h
  · rename_i y top
    obtain ⟨hy, hy2, h0, h1, q⟩ := h
    have hpos : 0 < y.length := List.length_pos_iff.mpr hy
    refine ⟨rfl, by omega, by omega, fun d hd0 hd1 => ⟨⟨by omega, by omega⟩, ?_⟩⟩
    refine ⟨by rw [rngI_length, line_eq]; omega, rfl, ?_⟩
    refine lcR_rel (fun _ z => ∃ c, c ∈ y ∧ z = .str [c]) _ _ (fun d hd K k => ?_) fun ys hys => ?_
    · refine ⟨lt_of 3 4, by omega, by omega, fun i hi0 hi1 => ?_⟩
      have hi : i.toNat < y.length := by omega
      have e : atI y i = some y[i.toNat] := by unfold atI; rw [ixN_nat hi0 hi1]; exact List.getElem?_eq_getElem hi
      show (match atI y i with | some c => _ | none => _)
      rw [e]
      exact k _ ⟨_, List.getElem_mem hi, rfl⟩
    · obtain ⟨w, rfl, hw, hl⟩ := all2_signs hys
      rw [rngI_length] at hl
      rw [List.nil_append]
      show (match strL (signs w) with | some r => _ | none => _)
      rw [strL_signs]
      refine ⟨len_signs (by omega), ?_⟩
      show Q (.d (.str (joinN [] (w.map fun c => [c])))) s
      rw [joinN_signs]
      exact q w hw (by omega)
  · exact h.elim
end Pu
set_option maxRecDepth 100000
set_option maxHeartbeats 4000000
namespace Pu
open PySem L2
/-! ### words shortened -/
def rpush (r : List Nat) (c : Nat) : List Nat := match r with
  | [] => [c]
  | x :: r' => if x = con c then r' else c :: x :: r'
def redR (r w : List Nat) : List Nat := w.foldl rpush r
def red (w : List Nat) : List Nat := (redR [] w).reverse
theorem rpush_W {r : List Nat} {c : Nat} (h : IsW r) (hc : IsL c) : IsW (rpush r c) := by
  unfold rpush
  cases r with
  | nil => intro d hd; rw [List.mem_singleton] at hd; subst hd; exact hc
  | cons x r =>
    simp only
    split
    · exact fun d hd => h d (List.mem_cons_of_mem _ hd)
    · intro d hd
      rcases List.mem_cons.mp hd with rfl | hd
      · exact hc
      · exact h d hd
theorem redR_W {r w : List Nat} (h : IsW r) (hw : IsW w) : IsW (redR r w) := by
  induction w generalizing r with
  | nil => exact h
  | cons c w ih => exact ih (rpush_W h (hw c (by simp))) fun d hd => hw d (List.mem_cons_of_mem _ hd)
theorem rev_W {w : List Nat} (h : IsW w) : IsW w.reverse := fun c hc => h c (List.mem_reverse.mp hc)
theorem red_W {w : List Nat} (hw : IsW w) : IsW (red w) := rev_W (redR_W (by intro c hc; cases hc) hw)
theorem rpush_len (r : List Nat) (c : Nat) : (rpush r c).length ≤ r.length + 1 := by
  unfold rpush
  cases r with
  | nil => simp
  | cons x r => simp only; split <;> simp; omega
theorem redR_len (r w : List Nat) : (redR r w).length ≤ r.length + w.length := by
  induction w generalizing r with
  | nil => simp [redR]
  | cons c w ih =>
    have h1 := ih (rpush r c)
    have h2 := rpush_len r c
    show (redR (rpush r c) w).length ≤ _
    simp only [List.length_cons]
    omega
theorem red_len (w : List Nat) : (red w).length ≤ w.length := by
  unfold red
  rw [List.length_reverse]
  have := redR_len [] w
  simpa using this
theorem redR_app (r v w : List Nat) : redR r (v ++ w) = redR (redR r v) w := by unfold redR; rw [List.foldl_append]
def m_shortened : PM := fun ds st Q => match ds with
  | [.str w] => IsW w ∧ w.length ≤ 16777216 ∧ Q (.d (.str (red w))) st
  | _ => False
theorem e_shortened {w s Q} : m_shortened [.str w] s Q = (IsW w ∧ w.length ≤ 16777216 ∧ Q (.d (.str (red w))) s) := rfl
theorem e_contrary {c s Q} : m_contrary [.str [c]] s Q = (IsL c ∧ Q (.d (.str [con c])) s) := rfl
theorem e_other {c s Q} : m_law_other [.str [c]] s Q = (IsL c ∧ Q (.d (.str [con c])) s) := rfl
theorem e_take {n s Q} : m_law_take [.box, .int n] s Q = (0 < n ∧ n < 2 ^ 64 ∧ ∀ d : Int, 0 ≤ d → d < n → Q (.d (.int d)) s) := rfl
theorem e_box {n k s Q} : m_law_box [.scr n, .int k] s Q = (0 ≤ k ∧ k < 2 ^ 40 ∧ Q (.d .box) s) := rfl
theorem e_yard {few top : Int} {s Q} : m_law_yard [.box, .int few, .int top] s Q = (0 ≤ few ∧ few ≤ top ∧ top ≤ 26 ∧ ∀ y : List Nat, YardOk y → 2 * few ≤ y.length → y.length ≤ 2 * top → Q (.d (.str y)) s) := rfl
theorem e_word {y s Q} {top : Int} : m_law_word [.box, .str y, .int top] s Q = (y ≠ [] ∧ y.length < 2 ^ 30 ∧ 0 ≤ top ∧ top ≤ 16777216 ∧ ∀ w : List Nat, (∀ c ∈ w, c ∈ y) → w.length ≤ top → Q (.d (.str w)) s) := rfl
theorem e_turned {w s Q} : m_turned [.str w] s Q = (IsW w ∧ w.length ≤ 16777216 ∧ Q (.d (.str (turn w))) s) := rfl
def t_shortened : PTS := sSeq (sAsg 1 (tLst (tNil))) (sSeq (sFor (iAny (tName 0)) (gName 2) (sIf (tAnd (tB (t2 (tCallP pLen (rCons (tName 1) (rNil))) (tD (.int 0)) pGt)) (tB (t2 (t2 (tName 1) (t1 (tD (.int 1)) pNeg) pIx) (tCall0 m_contrary (tCons (tName 2) (tNil))) pEq))) (sDrop (tMut mPop (tName 1) tNil)) (sDrop (tMut mAppend (tName 1) (tCons (tName 2) (tNil)))))) (sRet (tMeth "str" pJoin (tD (.str [])) (rCons (tName 1) (rNil)))))
abbrev N_shortened : List Str := ["word", "left", "letter"]
theorem len_shortened (ds : List D) (s : Sto) (Q : C → Sto → Prop) (h : m_shortened ds s Q) : ds.length = 1 := by
  unfold m_shortened at h
  split at h
  · rfl
  · exact h.elim
theorem signs_last {r : List Nat} {c : Nat} : (signs (c :: r).reverse)[(signs (c :: r).reverse).length - 1]? = some (.str [c]) := by
  unfold signs
  simp
theorem signs_drop (r : List Nat) : (signs r).dropLast = signs r.dropLast := by unfold signs; rw [List.map_dropLast]
theorem rev_drop (c : Nat) (r : List Nat) : (c :: r).reverse.dropLast = r.reverse := by simp
theorem p_shortened (ds : List D) (s : Sto) (Q : C → Sto → Prop) (h : m_shortened ds s Q) : t_shortened noX { nx := fun e => Q (.d .non) e.st, rt := fun c e => Q c e.st } ⟨startC N_shortened ds, s⟩ := by
  unfold m_shortened at h
  split at h
  · rename_i w
    obtain ⟨hw, hl, q⟩ := h
    unfold t_shortened
    simp -dsimp only [↓opt_some, ↓br_true, ↓br_false, ↓nameC_d, ↓nameC_own, ↓nameC_dK, ↓nameC_dT, ↓x_name, ↓fzC_d, ↓fzC_own, ↓x_fzn, ↓x_fzd, ↓x_fzo, ↓x_rvn, ↓x_rvd, ↓x_rvo, ↓retC_d, ↓retC_own, ↓x_retn, ↓x_retd, ↓x_reto, ↓x_hd, ↓x_ho, ↓x_hn, ↓x_ad, ↓x_ao, ↓x_an, ↓x_set, ↓x_seq, ↓x_next, ↓x_break, ↓x_cont, ↓x_drop, ↓x_ret, ↓x_retN, ↓x_if, ↓x_asg, ↓x_asgG, ↓x_while, ↓x_for, ↓x_2, ↓x_1, ↓x_D, ↓bC_b, ↓x_B, ↓x_and, ↓x_or, ↓x_not, ↓x_andV, ↓x_orV, ↓x_notV, ↓x_tif, ↓x_nil, ↓x_cons, ↓x_tup, ↓x_lst, ↓x_rnil, ↓x_rcons, ↓x_callP, ↓x_rvLc, ↓x_rvLn, ↓x_meth, ↓x_meth0, ↓x_mut, ↓x_mg, ↓x_ms, ↓x_sl, ↓x_on, ↓iC_i, ↓x_os, ↓x_lc, ↓x_any, ↓x_pure, ↓sC_s, ↓x_rev, ↓x_call, ↓x_gn, ↓x_gnil, ↓x_gcons, ↓x_isi, ↓a_ii, ↓a_ss, ↓a_ll, ↓a_tt, ↓a_I, ↓a_neg, ↓a_mul, ↓a_mulL, ↓a_mulS, ↓a_eq, ↓a_ne, ↓a_lt, ↓a_le, ↓a_gt, ↓a_ge, ↓a_ltS, ↓a_leS, ↓a_inS, ↓a_ninS, ↓a_inL, ↓a_ninL, ↓a_inT, ↓a_ninT, ↓a_ixL, ↓a_ixT, ↓a_ixS, ↓a_ixR, ↓a_ixB, ↓a_slL, ↓a_slT, ↓a_slS, ↓a_lenS, ↓a_lenL, ↓a_lenT, ↓a_lenR, ↓a_join, ↓a_ixof, ↓a_ixofL, ↓a_rng1, ↓a_rng2, ↓a_min2, ↓a_max2, ↓a_lstS, ↓a_lstL, ↓a_lstT, ↓a_int, ↓a_intB, ↓a_isN, ↓x_popAt, ↓x_all, ↓x_anyB, ↓a_isB, ↓a_pop, ↓x_dict0, ↓x_aK, ↓x_kg, ↓x_ks, ↓x_dg, ↓x_di, ↓x_dpt, ↓x_enum, ↓a_backL, ↓a_backT, ↓x_never, ↓a_tupL, ↓a_tupT, ↓x_sort, ↓x_sortS, ↓x_sortP, ↓a_slR, ↓x_zip, ↓x_sum, ↓a_count, ↓augC_i, ↓x_aug, rvC_d, rvC_own, consO_s, isTy_s, isTy_l, mgC_own, walk_l, walk_t, walk_s, toR_d, toR_o, items_l, items_t, ok_s, ok_i, ok_b, ok_n, ok_l, ok_t, okL_n, okL_c, e_ss, e_ii, e_bb, e_ll, e_tt, eL_nn, eL_cc, eL_nc, eL_cn, ty_s, ty_i, ty_l, ty_b, kgC_dK, key_i, key_s, kI_eq, kS_eq, oneR_1, walkE_l, walkE_t, walkE_s, ty_t, twoR_2, side_l, side_t, m_app, m_ext, m_rev, sline, startC, restE, restC, wipeE, wipeC, plainC, List.getElem?_cons_zero, List.getElem?_cons_succ, List.getD_cons_zero, List.getD_cons_succ, List.set_cons_zero, List.set_cons_succ, List.length_cons, List.length_nil, List.map_cons, List.map_nil, List.replicate_succ, List.replicate_zero, List.cons_append, List.nil_append, Nat.reduceAdd, Nat.reduceMul, Int.reduceAdd, Int.reduceSub, Int.reduceMul, Nat.reduceSub, Nat.reduceLT, Nat.reduceLeDiff, Nat.lt_add_one, Int.reduceNeg, Int.reduceLT, Int.reduceLE, Int.reduceToNat, Int.reducePow, Nat.reducePow, List.flatten_cons, List.flatten_nil, List.append_nil, true_and, and_true, true_or, or_true, eq_self, and_self, decide_true, decide_false, Bool.not_true, Bool.not_false, Bool.not_not, Option.isSome_some, Bool.and_true, Bool.true_and, Bool.and_self, reduceIte, ↓reduceIte, Bool.false_eq_true, ite_self, reduceCtorEq, ne_eq, not_false_eq_true, forall_const, ↓x_gtup, ↓a_repr, ↓x_min1, ↓a_min2S, ↓x_yes, ↓x_ite, x_gnil, walk_l, walk_t, walk_s]
    refine forH_signs w (fun pre suf e => ∃ c2, e = ⟨[.d (.str w), .own (signs (redR [] pre).reverse), c2], s⟩) ⟨_, rfl⟩ ?_ ?_
    · rintro e ⟨c2, rfl⟩
      simp -dsimp only [↓opt_some, ↓br_true, ↓br_false, ↓nameC_d, ↓nameC_own, ↓nameC_dK, ↓nameC_dT, ↓x_name, ↓fzC_d, ↓fzC_own, ↓x_fzn, ↓x_fzd, ↓x_fzo, ↓x_rvn, ↓x_rvd, ↓x_rvo, ↓retC_d, ↓retC_own, ↓x_retn, ↓x_retd, ↓x_reto, ↓x_hd, ↓x_ho, ↓x_hn, ↓x_ad, ↓x_ao, ↓x_an, ↓x_set, ↓x_seq, ↓x_next, ↓x_break, ↓x_cont, ↓x_drop, ↓x_ret, ↓x_retN, ↓x_if, ↓x_asg, ↓x_asgG, ↓x_while, ↓x_for, ↓x_2, ↓x_1, ↓x_D, ↓bC_b, ↓x_B, ↓x_and, ↓x_or, ↓x_not, ↓x_andV, ↓x_orV, ↓x_notV, ↓x_tif, ↓x_nil, ↓x_cons, ↓x_tup, ↓x_lst, ↓x_rnil, ↓x_rcons, ↓x_callP, ↓x_rvLc, ↓x_rvLn, ↓x_meth, ↓x_meth0, ↓x_mut, ↓x_mg, ↓x_ms, ↓x_sl, ↓x_on, ↓iC_i, ↓x_os, ↓x_lc, ↓x_any, ↓x_pure, ↓sC_s, ↓x_rev, ↓x_call, ↓x_gn, ↓x_gnil, ↓x_gcons, ↓x_isi, ↓a_ii, ↓a_ss, ↓a_ll, ↓a_tt, ↓a_I, ↓a_neg, ↓a_mul, ↓a_mulL, ↓a_mulS, ↓a_eq, ↓a_ne, ↓a_lt, ↓a_le, ↓a_gt, ↓a_ge, ↓a_ltS, ↓a_leS, ↓a_inS, ↓a_ninS, ↓a_inL, ↓a_ninL, ↓a_inT, ↓a_ninT, ↓a_ixL, ↓a_ixT, ↓a_ixS, ↓a_ixR, ↓a_ixB, ↓a_slL, ↓a_slT, ↓a_slS, ↓a_lenS, ↓a_lenL, ↓a_lenT, ↓a_lenR, ↓a_join, ↓a_ixof, ↓a_ixofL, ↓a_rng1, ↓a_rng2, ↓a_min2, ↓a_max2, ↓a_lstS, ↓a_lstL, ↓a_lstT, ↓a_int, ↓a_intB, ↓a_isN, ↓x_popAt, ↓x_all, ↓x_anyB, ↓a_isB, ↓a_pop, ↓x_dict0, ↓x_aK, ↓x_kg, ↓x_ks, ↓x_dg, ↓x_di, ↓x_dpt, ↓x_enum, ↓a_backL, ↓a_backT, ↓x_never, ↓a_tupL, ↓a_tupT, ↓x_sort, ↓x_sortS, ↓x_sortP, ↓a_slR, ↓x_zip, ↓x_sum, ↓a_count, ↓augC_i, ↓x_aug, rvC_d, rvC_own, consO_s, isTy_s, isTy_l, mgC_own, walk_l, walk_t, walk_s, toR_d, toR_o, items_l, items_t, ok_s, ok_i, ok_b, ok_n, ok_l, ok_t, okL_n, okL_c, e_ss, e_ii, e_bb, e_ll, e_tt, eL_nn, eL_cc, eL_nc, eL_cn, ty_s, ty_i, ty_l, ty_b, kgC_dK, key_i, key_s, kI_eq, kS_eq, oneR_1, walkE_l, walkE_t, walkE_s, ty_t, twoR_2, side_l, side_t, m_app, m_ext, m_rev, sline, startC, restE, restC, wipeE, wipeC, plainC, List.getElem?_cons_zero, List.getElem?_cons_succ, List.getD_cons_zero, List.getD_cons_succ, List.set_cons_zero, List.set_cons_succ, List.length_cons, List.length_nil, List.map_cons, List.map_nil, List.replicate_succ, List.replicate_zero, List.cons_append, List.nil_append, Nat.reduceAdd, Nat.reduceMul, Int.reduceAdd, Int.reduceSub, Int.reduceMul, Nat.reduceSub, Nat.reduceLT, Nat.reduceLeDiff, Nat.lt_add_one, Int.reduceNeg, Int.reduceLT, Int.reduceLE, Int.reduceToNat, Int.reducePow, Nat.reducePow, List.flatten_cons, List.flatten_nil, List.append_nil, true_and, and_true, true_or, or_true, eq_self, and_self, decide_true, decide_false, Bool.not_true, Bool.not_false, Bool.not_not, Option.isSome_some, Bool.and_true, Bool.true_and, Bool.and_self, reduceIte, ↓reduceIte, Bool.false_eq_true, ite_self, reduceCtorEq, ne_eq, not_false_eq_true, forall_const, ↓x_gtup, ↓a_repr, ↓x_min1, ↓a_min2S, ↓x_yes, ↓x_ite, x_gnil, walk_l, walk_t, walk_s, strL_signs, joinN_signs]
      exact ⟨len_signs' (Nat.le_trans (red_len w) hl), q⟩
    · rintro pre c suf e hp ⟨c2, rfl⟩ N hN
      have hc : IsL c := hw c (by rw [← hp]; simp)
      have hpw : IsW pre := fun d hd => hw d (by rw [← hp]; simp [hd])
      have hrl := redR_len [] pre
      have hpl : pre.length + (suf.length + 1) = w.length := by rw [← hp]; simp
      have fin : ∀ r', r' = redR [] (pre ++ [c]) → N ⟨[.d (.str w), .own (signs r'.reverse), .d (.str [c])], s⟩ := fun r' h => by subst h; exact hN _ ⟨_, rfl⟩
      rw [redR_app] at fin
      generalize redR [] pre = r at hrl fin
      have fin : N ⟨[.d (.str w), .own (signs (rpush r c).reverse), .d (.str [c])], s⟩ := fin _ rfl
      have app : (signs r.reverse).length < 16777216 ∧ (rpush r c = c :: r → N ⟨[.d (.str w), .own (signs r.reverse ++ [.str [c]]), .d (.str [c])], s⟩) := by
        refine ⟨by rw [signs_len, List.length_reverse]; simp at hrl; omega, fun e => ?_⟩
        rw [signs_snoc, ← List.reverse_cons, ← e]
        exact fin
      simp -dsimp only [↓opt_some, ↓br_true, ↓br_false, ↓nameC_d, ↓nameC_own, ↓nameC_dK, ↓nameC_dT, ↓x_name, ↓fzC_d, ↓fzC_own, ↓x_fzn, ↓x_fzd, ↓x_fzo, ↓x_rvn, ↓x_rvd, ↓x_rvo, ↓retC_d, ↓retC_own, ↓x_retn, ↓x_retd, ↓x_reto, ↓x_hd, ↓x_ho, ↓x_hn, ↓x_ad, ↓x_ao, ↓x_an, ↓x_set, ↓x_seq, ↓x_next, ↓x_break, ↓x_cont, ↓x_drop, ↓x_ret, ↓x_retN, ↓x_if, ↓x_asg, ↓x_asgG, ↓x_while, ↓x_for, ↓x_2, ↓x_1, ↓x_D, ↓bC_b, ↓x_B, ↓x_and, ↓x_or, ↓x_not, ↓x_andV, ↓x_orV, ↓x_notV, ↓x_tif, ↓x_nil, ↓x_cons, ↓x_tup, ↓x_lst, ↓x_rnil, ↓x_rcons, ↓x_callP, ↓x_rvLc, ↓x_rvLn, ↓x_meth, ↓x_meth0, ↓x_mut, ↓x_mg, ↓x_ms, ↓x_sl, ↓x_on, ↓iC_i, ↓x_os, ↓x_lc, ↓x_any, ↓x_pure, ↓sC_s, ↓x_rev, ↓x_call, ↓x_gn, ↓x_gnil, ↓x_gcons, ↓x_isi, ↓a_ii, ↓a_ss, ↓a_ll, ↓a_tt, ↓a_I, ↓a_neg, ↓a_mul, ↓a_mulL, ↓a_mulS, ↓a_eq, ↓a_ne, ↓a_lt, ↓a_le, ↓a_gt, ↓a_ge, ↓a_ltS, ↓a_leS, ↓a_inS, ↓a_ninS, ↓a_inL, ↓a_ninL, ↓a_inT, ↓a_ninT, ↓a_ixL, ↓a_ixT, ↓a_ixS, ↓a_ixR, ↓a_ixB, ↓a_slL, ↓a_slT, ↓a_slS, ↓a_lenS, ↓a_lenL, ↓a_lenT, ↓a_lenR, ↓a_join, ↓a_ixof, ↓a_ixofL, ↓a_rng1, ↓a_rng2, ↓a_min2, ↓a_max2, ↓a_lstS, ↓a_lstL, ↓a_lstT, ↓a_int, ↓a_intB, ↓a_isN, ↓x_popAt, ↓x_all, ↓x_anyB, ↓a_isB, ↓a_pop, ↓x_dict0, ↓x_aK, ↓x_kg, ↓x_ks, ↓x_dg, ↓x_di, ↓x_dpt, ↓x_enum, ↓a_backL, ↓a_backT, ↓x_never, ↓a_tupL, ↓a_tupT, ↓x_sort, ↓x_sortS, ↓x_sortP, ↓a_slR, ↓x_zip, ↓x_sum, ↓a_count, ↓augC_i, ↓x_aug, rvC_d, rvC_own, consO_s, isTy_s, isTy_l, mgC_own, walk_l, walk_t, walk_s, toR_d, toR_o, items_l, items_t, ok_s, ok_i, ok_b, ok_n, ok_l, ok_t, okL_n, okL_c, e_ss, e_ii, e_bb, e_ll, e_tt, eL_nn, eL_cc, eL_nc, eL_cn, ty_s, ty_i, ty_l, ty_b, kgC_dK, key_i, key_s, kI_eq, kS_eq, oneR_1, walkE_l, walkE_t, walkE_s, ty_t, twoR_2, side_l, side_t, m_app, m_ext, m_rev, sline, startC, restE, restC, wipeE, wipeC, plainC, List.getElem?_cons_zero, List.getElem?_cons_succ, List.getD_cons_zero, List.getD_cons_succ, List.set_cons_zero, List.set_cons_succ, List.length_cons, List.length_nil, List.map_cons, List.map_nil, List.replicate_succ, List.replicate_zero, List.cons_append, List.nil_append, Nat.reduceAdd, Nat.reduceMul, Int.reduceAdd, Int.reduceSub, Int.reduceMul, Nat.reduceSub, Nat.reduceLT, Nat.reduceLeDiff, Nat.lt_add_one, Int.reduceNeg, Int.reduceLT, Int.reduceLE, Int.reduceToNat, Int.reducePow, Nat.reducePow, List.flatten_cons, List.flatten_nil, List.append_nil, true_and, and_true, true_or, or_true, eq_self, and_self, decide_true, decide_false, Bool.not_true, Bool.not_false, Bool.not_not, Option.isSome_some, Bool.and_true, Bool.true_and, Bool.and_self, reduceIte, ↓reduceIte, Bool.false_eq_true, ite_self, reduceCtorEq, ne_eq, not_false_eq_true, forall_const, ↓x_gtup, ↓a_repr, ↓x_min1, ↓a_min2S, ↓x_yes, ↓x_ite, x_gnil, walk_l, walk_t, walk_s]
      cases r with
      | nil =>
        refine br_neg (by decide) ?_
        simp -dsimp only [↓opt_some, ↓br_true, ↓br_false, ↓nameC_d, ↓nameC_own, ↓nameC_dK, ↓nameC_dT, ↓x_name, ↓fzC_d, ↓fzC_own, ↓x_fzn, ↓x_fzd, ↓x_fzo, ↓x_rvn, ↓x_rvd, ↓x_rvo, ↓retC_d, ↓retC_own, ↓x_retn, ↓x_retd, ↓x_reto, ↓x_hd, ↓x_ho, ↓x_hn, ↓x_ad, ↓x_ao, ↓x_an, ↓x_set, ↓x_seq, ↓x_next, ↓x_break, ↓x_cont, ↓x_drop, ↓x_ret, ↓x_retN, ↓x_if, ↓x_asg, ↓x_asgG, ↓x_while, ↓x_for, ↓x_2, ↓x_1, ↓x_D, ↓bC_b, ↓x_B, ↓x_and, ↓x_or, ↓x_not, ↓x_andV, ↓x_orV, ↓x_notV, ↓x_tif, ↓x_nil, ↓x_cons, ↓x_tup, ↓x_lst, ↓x_rnil, ↓x_rcons, ↓x_callP, ↓x_rvLc, ↓x_rvLn, ↓x_meth, ↓x_meth0, ↓x_mut, ↓x_mg, ↓x_ms, ↓x_sl, ↓x_on, ↓iC_i, ↓x_os, ↓x_lc, ↓x_any, ↓x_pure, ↓sC_s, ↓x_rev, ↓x_call, ↓x_gn, ↓x_gnil, ↓x_gcons, ↓x_isi, ↓a_ii, ↓a_ss, ↓a_ll, ↓a_tt, ↓a_I, ↓a_neg, ↓a_mul, ↓a_mulL, ↓a_mulS, ↓a_eq, ↓a_ne, ↓a_lt, ↓a_le, ↓a_gt, ↓a_ge, ↓a_ltS, ↓a_leS, ↓a_inS, ↓a_ninS, ↓a_inL, ↓a_ninL, ↓a_inT, ↓a_ninT, ↓a_ixL, ↓a_ixT, ↓a_ixS, ↓a_ixR, ↓a_ixB, ↓a_slL, ↓a_slT, ↓a_slS, ↓a_lenS, ↓a_lenL, ↓a_lenT, ↓a_lenR, ↓a_join, ↓a_ixof, ↓a_ixofL, ↓a_rng1, ↓a_rng2, ↓a_min2, ↓a_max2, ↓a_lstS, ↓a_lstL, ↓a_lstT, ↓a_int, ↓a_intB, ↓a_isN, ↓x_popAt, ↓x_all, ↓x_anyB, ↓a_isB, ↓a_pop, ↓x_dict0, ↓x_aK, ↓x_kg, ↓x_ks, ↓x_dg, ↓x_di, ↓x_dpt, ↓x_enum, ↓a_backL, ↓a_backT, ↓x_never, ↓a_tupL, ↓a_tupT, ↓x_sort, ↓x_sortS, ↓x_sortP, ↓a_slR, ↓x_zip, ↓x_sum, ↓a_count, ↓augC_i, ↓x_aug, rvC_d, rvC_own, consO_s, isTy_s, isTy_l, mgC_own, walk_l, walk_t, walk_s, toR_d, toR_o, items_l, items_t, ok_s, ok_i, ok_b, ok_n, ok_l, ok_t, okL_n, okL_c, e_ss, e_ii, e_bb, e_ll, e_tt, eL_nn, eL_cc, eL_nc, eL_cn, ty_s, ty_i, ty_l, ty_b, kgC_dK, key_i, key_s, kI_eq, kS_eq, oneR_1, walkE_l, walkE_t, walkE_s, ty_t, twoR_2, side_l, side_t, m_app, m_ext, m_rev, sline, startC, restE, restC, wipeE, wipeC, plainC, List.getElem?_cons_zero, List.getElem?_cons_succ, List.getD_cons_zero, List.getD_cons_succ, List.set_cons_zero, List.set_cons_succ, List.length_cons, List.length_nil, List.map_cons, List.map_nil, List.replicate_succ, List.replicate_zero, List.cons_append, List.nil_append, Nat.reduceAdd, Nat.reduceMul, Int.reduceAdd, Int.reduceSub, Int.reduceMul, Nat.reduceSub, Nat.reduceLT, Nat.reduceLeDiff, Nat.lt_add_one, Int.reduceNeg, Int.reduceLT, Int.reduceLE, Int.reduceToNat, Int.reducePow, Nat.reducePow, List.flatten_cons, List.flatten_nil, List.append_nil, true_and, and_true, true_or, or_true, eq_self, and_self, decide_true, decide_false, Bool.not_true, Bool.not_false, Bool.not_not, Option.isSome_some, Bool.and_true, Bool.true_and, Bool.and_self, reduceIte, ↓reduceIte, Bool.false_eq_true, ite_self, reduceCtorEq, ne_eq, not_false_eq_true, forall_const, ↓x_gtup, ↓a_repr, ↓x_min1, ↓a_min2S, ↓x_yes, ↓x_ite, x_gnil, walk_l, walk_t, walk_s]
        exact ⟨app.1, app.2 rfl⟩
      | cons x r =>
        refine br_pos (decide_eq_true ?_) ?_
        · rw [signs_len]; simp
        simp -dsimp only [↓opt_some, ↓br_true, ↓br_false, ↓nameC_d, ↓nameC_own, ↓nameC_dK, ↓nameC_dT, ↓x_name, ↓fzC_d, ↓fzC_own, ↓x_fzn, ↓x_fzd, ↓x_fzo, ↓x_rvn, ↓x_rvd, ↓x_rvo, ↓retC_d, ↓retC_own, ↓x_retn, ↓x_retd, ↓x_reto, ↓x_hd, ↓x_ho, ↓x_hn, ↓x_ad, ↓x_ao, ↓x_an, ↓x_set, ↓x_seq, ↓x_next, ↓x_break, ↓x_cont, ↓x_drop, ↓x_ret, ↓x_retN, ↓x_if, ↓x_asg, ↓x_asgG, ↓x_while, ↓x_for, ↓x_2, ↓x_1, ↓x_D, ↓bC_b, ↓x_B, ↓x_and, ↓x_or, ↓x_not, ↓x_andV, ↓x_orV, ↓x_notV, ↓x_tif, ↓x_nil, ↓x_cons, ↓x_tup, ↓x_lst, ↓x_rnil, ↓x_rcons, ↓x_callP, ↓x_rvLc, ↓x_rvLn, ↓x_meth, ↓x_meth0, ↓x_mut, ↓x_mg, ↓x_ms, ↓x_sl, ↓x_on, ↓iC_i, ↓x_os, ↓x_lc, ↓x_any, ↓x_pure, ↓sC_s, ↓x_rev, ↓x_call, ↓x_gn, ↓x_gnil, ↓x_gcons, ↓x_isi, ↓a_ii, ↓a_ss, ↓a_ll, ↓a_tt, ↓a_I, ↓a_neg, ↓a_mul, ↓a_mulL, ↓a_mulS, ↓a_eq, ↓a_ne, ↓a_lt, ↓a_le, ↓a_gt, ↓a_ge, ↓a_ltS, ↓a_leS, ↓a_inS, ↓a_ninS, ↓a_inL, ↓a_ninL, ↓a_inT, ↓a_ninT, ↓a_ixL, ↓a_ixT, ↓a_ixS, ↓a_ixR, ↓a_ixB, ↓a_slL, ↓a_slT, ↓a_slS, ↓a_lenS, ↓a_lenL, ↓a_lenT, ↓a_lenR, ↓a_join, ↓a_ixof, ↓a_ixofL, ↓a_rng1, ↓a_rng2, ↓a_min2, ↓a_max2, ↓a_lstS, ↓a_lstL, ↓a_lstT, ↓a_int, ↓a_intB, ↓a_isN, ↓x_popAt, ↓x_all, ↓x_anyB, ↓a_isB, ↓a_pop, ↓x_dict0, ↓x_aK, ↓x_kg, ↓x_ks, ↓x_dg, ↓x_di, ↓x_dpt, ↓x_enum, ↓a_backL, ↓a_backT, ↓x_never, ↓a_tupL, ↓a_tupT, ↓x_sort, ↓x_sortS, ↓x_sortP, ↓a_slR, ↓x_zip, ↓x_sum, ↓a_count, ↓augC_i, ↓x_aug, rvC_d, rvC_own, consO_s, isTy_s, isTy_l, mgC_own, walk_l, walk_t, walk_s, toR_d, toR_o, items_l, items_t, ok_s, ok_i, ok_b, ok_n, ok_l, ok_t, okL_n, okL_c, e_ss, e_ii, e_bb, e_ll, e_tt, eL_nn, eL_cc, eL_nc, eL_cn, ty_s, ty_i, ty_l, ty_b, kgC_dK, key_i, key_s, kI_eq, kS_eq, oneR_1, walkE_l, walkE_t, walkE_s, ty_t, twoR_2, side_l, side_t, m_app, m_ext, m_rev, sline, startC, restE, restC, wipeE, wipeC, plainC, List.getElem?_cons_zero, List.getElem?_cons_succ, List.getD_cons_zero, List.getD_cons_succ, List.set_cons_zero, List.set_cons_succ, List.length_cons, List.length_nil, List.map_cons, List.map_nil, List.replicate_succ, List.replicate_zero, List.cons_append, List.nil_append, Nat.reduceAdd, Nat.reduceMul, Int.reduceAdd, Int.reduceSub, Int.reduceMul, Nat.reduceSub, Nat.reduceLT, Nat.reduceLeDiff, Nat.lt_add_one, Int.reduceNeg, Int.reduceLT, Int.reduceLE, Int.reduceToNat, Int.reducePow, Nat.reducePow, List.flatten_cons, List.flatten_nil, List.append_nil, true_and, and_true, true_or, or_true, eq_self, and_self, decide_true, decide_false, Bool.not_true, Bool.not_false, Bool.not_not, Option.isSome_some, Bool.and_true, Bool.true_and, Bool.and_self, reduceIte, ↓reduceIte, Bool.false_eq_true, ite_self, reduceCtorEq, ne_eq, not_false_eq_true, forall_const, ↓x_gtup, ↓a_repr, ↓x_min1, ↓a_min2S, ↓x_yes, ↓x_ite, x_gnil, walk_l, walk_t, walk_s, atI_last]
        refine opt_of (a := .str [x]) (by unfold signs; simp) ?_
        simp -dsimp only [↓opt_some, ↓br_true, ↓br_false, ↓nameC_d, ↓nameC_own, ↓nameC_dK, ↓nameC_dT, ↓x_name, ↓fzC_d, ↓fzC_own, ↓x_fzn, ↓x_fzd, ↓x_fzo, ↓x_rvn, ↓x_rvd, ↓x_rvo, ↓retC_d, ↓retC_own, ↓x_retn, ↓x_retd, ↓x_reto, ↓x_hd, ↓x_ho, ↓x_hn, ↓x_ad, ↓x_ao, ↓x_an, ↓x_set, ↓x_seq, ↓x_next, ↓x_break, ↓x_cont, ↓x_drop, ↓x_ret, ↓x_retN, ↓x_if, ↓x_asg, ↓x_asgG, ↓x_while, ↓x_for, ↓x_2, ↓x_1, ↓x_D, ↓bC_b, ↓x_B, ↓x_and, ↓x_or, ↓x_not, ↓x_andV, ↓x_orV, ↓x_notV, ↓x_tif, ↓x_nil, ↓x_cons, ↓x_tup, ↓x_lst, ↓x_rnil, ↓x_rcons, ↓x_callP, ↓x_rvLc, ↓x_rvLn, ↓x_meth, ↓x_meth0, ↓x_mut, ↓x_mg, ↓x_ms, ↓x_sl, ↓x_on, ↓iC_i, ↓x_os, ↓x_lc, ↓x_any, ↓x_pure, ↓sC_s, ↓x_rev, ↓x_call, ↓x_gn, ↓x_gnil, ↓x_gcons, ↓x_isi, ↓a_ii, ↓a_ss, ↓a_ll, ↓a_tt, ↓a_I, ↓a_neg, ↓a_mul, ↓a_mulL, ↓a_mulS, ↓a_eq, ↓a_ne, ↓a_lt, ↓a_le, ↓a_gt, ↓a_ge, ↓a_ltS, ↓a_leS, ↓a_inS, ↓a_ninS, ↓a_inL, ↓a_ninL, ↓a_inT, ↓a_ninT, ↓a_ixL, ↓a_ixT, ↓a_ixS, ↓a_ixR, ↓a_ixB, ↓a_slL, ↓a_slT, ↓a_slS, ↓a_lenS, ↓a_lenL, ↓a_lenT, ↓a_lenR, ↓a_join, ↓a_ixof, ↓a_ixofL, ↓a_rng1, ↓a_rng2, ↓a_min2, ↓a_max2, ↓a_lstS, ↓a_lstL, ↓a_lstT, ↓a_int, ↓a_intB, ↓a_isN, ↓x_popAt, ↓x_all, ↓x_anyB, ↓a_isB, ↓a_pop, ↓x_dict0, ↓x_aK, ↓x_kg, ↓x_ks, ↓x_dg, ↓x_di, ↓x_dpt, ↓x_enum, ↓a_backL, ↓a_backT, ↓x_never, ↓a_tupL, ↓a_tupT, ↓x_sort, ↓x_sortS, ↓x_sortP, ↓a_slR, ↓x_zip, ↓x_sum, ↓a_count, ↓augC_i, ↓x_aug, rvC_d, rvC_own, consO_s, isTy_s, isTy_l, mgC_own, walk_l, walk_t, walk_s, toR_d, toR_o, items_l, items_t, ok_s, ok_i, ok_b, ok_n, ok_l, ok_t, okL_n, okL_c, e_ss, e_ii, e_bb, e_ll, e_tt, eL_nn, eL_cc, eL_nc, eL_cn, ty_s, ty_i, ty_l, ty_b, kgC_dK, key_i, key_s, kI_eq, kS_eq, oneR_1, walkE_l, walkE_t, walkE_s, ty_t, twoR_2, side_l, side_t, m_app, m_ext, m_rev, sline, startC, restE, restC, wipeE, wipeC, plainC, List.getElem?_cons_zero, List.getElem?_cons_succ, List.getD_cons_zero, List.getD_cons_succ, List.set_cons_zero, List.set_cons_succ, List.length_cons, List.length_nil, List.map_cons, List.map_nil, List.replicate_succ, List.replicate_zero, List.cons_append, List.nil_append, Nat.reduceAdd, Nat.reduceMul, Int.reduceAdd, Int.reduceSub, Int.reduceMul, Nat.reduceSub, Nat.reduceLT, Nat.reduceLeDiff, Nat.lt_add_one, Int.reduceNeg, Int.reduceLT, Int.reduceLE, Int.reduceToNat, Int.reducePow, Nat.reducePow, List.flatten_cons, List.flatten_nil, List.append_nil, true_and, and_true, true_or, or_true, eq_self, and_self, decide_true, decide_false, Bool.not_true, Bool.not_false, Bool.not_not, Option.isSome_some, Bool.and_true, Bool.true_and, Bool.and_self, reduceIte, ↓reduceIte, Bool.false_eq_true, ite_self, reduceCtorEq, ne_eq, not_false_eq_true, forall_const, ↓x_gtup, ↓a_repr, ↓x_min1, ↓a_min2S, ↓x_yes, ↓x_ite, x_gnil, walk_l, walk_t, walk_s, e_contrary]
        refine ⟨hc, ?_⟩
        by_cases hx : x = con c
        · refine br_pos (decide_eq_true (by rw [hx])) ?_
          simp -dsimp only [↓opt_some, ↓br_true, ↓br_false, ↓nameC_d, ↓nameC_own, ↓nameC_dK, ↓nameC_dT, ↓x_name, ↓fzC_d, ↓fzC_own, ↓x_fzn, ↓x_fzd, ↓x_fzo, ↓x_rvn, ↓x_rvd, ↓x_rvo, ↓retC_d, ↓retC_own, ↓x_retn, ↓x_retd, ↓x_reto, ↓x_hd, ↓x_ho, ↓x_hn, ↓x_ad, ↓x_ao, ↓x_an, ↓x_set, ↓x_seq, ↓x_next, ↓x_break, ↓x_cont, ↓x_drop, ↓x_ret, ↓x_retN, ↓x_if, ↓x_asg, ↓x_asgG, ↓x_while, ↓x_for, ↓x_2, ↓x_1, ↓x_D, ↓bC_b, ↓x_B, ↓x_and, ↓x_or, ↓x_not, ↓x_andV, ↓x_orV, ↓x_notV, ↓x_tif, ↓x_nil, ↓x_cons, ↓x_tup, ↓x_lst, ↓x_rnil, ↓x_rcons, ↓x_callP, ↓x_rvLc, ↓x_rvLn, ↓x_meth, ↓x_meth0, ↓x_mut, ↓x_mg, ↓x_ms, ↓x_sl, ↓x_on, ↓iC_i, ↓x_os, ↓x_lc, ↓x_any, ↓x_pure, ↓sC_s, ↓x_rev, ↓x_call, ↓x_gn, ↓x_gnil, ↓x_gcons, ↓x_isi, ↓a_ii, ↓a_ss, ↓a_ll, ↓a_tt, ↓a_I, ↓a_neg, ↓a_mul, ↓a_mulL, ↓a_mulS, ↓a_eq, ↓a_ne, ↓a_lt, ↓a_le, ↓a_gt, ↓a_ge, ↓a_ltS, ↓a_leS, ↓a_inS, ↓a_ninS, ↓a_inL, ↓a_ninL, ↓a_inT, ↓a_ninT, ↓a_ixL, ↓a_ixT, ↓a_ixS, ↓a_ixR, ↓a_ixB, ↓a_slL, ↓a_slT, ↓a_slS, ↓a_lenS, ↓a_lenL, ↓a_lenT, ↓a_lenR, ↓a_join, ↓a_ixof, ↓a_ixofL, ↓a_rng1, ↓a_rng2, ↓a_min2, ↓a_max2, ↓a_lstS, ↓a_lstL, ↓a_lstT, ↓a_int, ↓a_intB, ↓a_isN, ↓x_popAt, ↓x_all, ↓x_anyB, ↓a_isB, ↓a_pop, ↓x_dict0, ↓x_aK, ↓x_kg, ↓x_ks, ↓x_dg, ↓x_di, ↓x_dpt, ↓x_enum, ↓a_backL, ↓a_backT, ↓x_never, ↓a_tupL, ↓a_tupT, ↓x_sort, ↓x_sortS, ↓x_sortP, ↓a_slR, ↓x_zip, ↓x_sum, ↓a_count, ↓augC_i, ↓x_aug, rvC_d, rvC_own, consO_s, isTy_s, isTy_l, mgC_own, walk_l, walk_t, walk_s, toR_d, toR_o, items_l, items_t, ok_s, ok_i, ok_b, ok_n, ok_l, ok_t, okL_n, okL_c, e_ss, e_ii, e_bb, e_ll, e_tt, eL_nn, eL_cc, eL_nc, eL_cn, ty_s, ty_i, ty_l, ty_b, kgC_dK, key_i, key_s, kI_eq, kS_eq, oneR_1, walkE_l, walkE_t, walkE_s, ty_t, twoR_2, side_l, side_t, m_app, m_ext, m_rev, sline, startC, restE, restC, wipeE, wipeC, plainC, List.getElem?_cons_zero, List.getElem?_cons_succ, List.getD_cons_zero, List.getD_cons_succ, List.set_cons_zero, List.set_cons_succ, List.length_cons, List.length_nil, List.map_cons, List.map_nil, List.replicate_succ, List.replicate_zero, List.cons_append, List.nil_append, Nat.reduceAdd, Nat.reduceMul, Int.reduceAdd, Int.reduceSub, Int.reduceMul, Nat.reduceSub, Nat.reduceLT, Nat.reduceLeDiff, Nat.lt_add_one, Int.reduceNeg, Int.reduceLT, Int.reduceLE, Int.reduceToNat, Int.reducePow, Nat.reducePow, List.flatten_cons, List.flatten_nil, List.append_nil, true_and, and_true, true_or, or_true, eq_self, and_self, decide_true, decide_false, Bool.not_true, Bool.not_false, Bool.not_not, Option.isSome_some, Bool.and_true, Bool.true_and, Bool.and_self, reduceIte, ↓reduceIte, Bool.false_eq_true, ite_self, reduceCtorEq, ne_eq, not_false_eq_true, forall_const, ↓x_gtup, ↓a_repr, ↓x_min1, ↓a_min2S, ↓x_yes, ↓x_ite, x_gnil, walk_l, walk_t, walk_s]
          refine opt_of signs_last ?_
          simp -dsimp only [↓opt_some, ↓br_true, ↓br_false, ↓nameC_d, ↓nameC_own, ↓nameC_dK, ↓nameC_dT, ↓x_name, ↓fzC_d, ↓fzC_own, ↓x_fzn, ↓x_fzd, ↓x_fzo, ↓x_rvn, ↓x_rvd, ↓x_rvo, ↓retC_d, ↓retC_own, ↓x_retn, ↓x_retd, ↓x_reto, ↓x_hd, ↓x_ho, ↓x_hn, ↓x_ad, ↓x_ao, ↓x_an, ↓x_set, ↓x_seq, ↓x_next, ↓x_break, ↓x_cont, ↓x_drop, ↓x_ret, ↓x_retN, ↓x_if, ↓x_asg, ↓x_asgG, ↓x_while, ↓x_for, ↓x_2, ↓x_1, ↓x_D, ↓bC_b, ↓x_B, ↓x_and, ↓x_or, ↓x_not, ↓x_andV, ↓x_orV, ↓x_notV, ↓x_tif, ↓x_nil, ↓x_cons, ↓x_tup, ↓x_lst, ↓x_rnil, ↓x_rcons, ↓x_callP, ↓x_rvLc, ↓x_rvLn, ↓x_meth, ↓x_meth0, ↓x_mut, ↓x_mg, ↓x_ms, ↓x_sl, ↓x_on, ↓iC_i, ↓x_os, ↓x_lc, ↓x_any, ↓x_pure, ↓sC_s, ↓x_rev, ↓x_call, ↓x_gn, ↓x_gnil, ↓x_gcons, ↓x_isi, ↓a_ii, ↓a_ss, ↓a_ll, ↓a_tt, ↓a_I, ↓a_neg, ↓a_mul, ↓a_mulL, ↓a_mulS, ↓a_eq, ↓a_ne, ↓a_lt, ↓a_le, ↓a_gt, ↓a_ge, ↓a_ltS, ↓a_leS, ↓a_inS, ↓a_ninS, ↓a_inL, ↓a_ninL, ↓a_inT, ↓a_ninT, ↓a_ixL, ↓a_ixT, ↓a_ixS, ↓a_ixR, ↓a_ixB, ↓a_slL, ↓a_slT, ↓a_slS, ↓a_lenS, ↓a_lenL, ↓a_lenT, ↓a_lenR, ↓a_join, ↓a_ixof, ↓a_ixofL, ↓a_rng1, ↓a_rng2, ↓a_min2, ↓a_max2, ↓a_lstS, ↓a_lstL, ↓a_lstT, ↓a_int, ↓a_intB, ↓a_isN, ↓x_popAt, ↓x_all, ↓x_anyB, ↓a_isB, ↓a_pop, ↓x_dict0, ↓x_aK, ↓x_kg, ↓x_ks, ↓x_dg, ↓x_di, ↓x_dpt, ↓x_enum, ↓a_backL, ↓a_backT, ↓x_never, ↓a_tupL, ↓a_tupT, ↓x_sort, ↓x_sortS, ↓x_sortP, ↓a_slR, ↓x_zip, ↓x_sum, ↓a_count, ↓augC_i, ↓x_aug, rvC_d, rvC_own, consO_s, isTy_s, isTy_l, mgC_own, walk_l, walk_t, walk_s, toR_d, toR_o, items_l, items_t, ok_s, ok_i, ok_b, ok_n, ok_l, ok_t, okL_n, okL_c, e_ss, e_ii, e_bb, e_ll, e_tt, eL_nn, eL_cc, eL_nc, eL_cn, ty_s, ty_i, ty_l, ty_b, kgC_dK, key_i, key_s, kI_eq, kS_eq, oneR_1, walkE_l, walkE_t, walkE_s, ty_t, twoR_2, side_l, side_t, m_app, m_ext, m_rev, sline, startC, restE, restC, wipeE, wipeC, plainC, List.getElem?_cons_zero, List.getElem?_cons_succ, List.getD_cons_zero, List.getD_cons_succ, List.set_cons_zero, List.set_cons_succ, List.length_cons, List.length_nil, List.map_cons, List.map_nil, List.replicate_succ, List.replicate_zero, List.cons_append, List.nil_append, Nat.reduceAdd, Nat.reduceMul, Int.reduceAdd, Int.reduceSub, Int.reduceMul, Nat.reduceSub, Nat.reduceLT, Nat.reduceLeDiff, Nat.lt_add_one, Int.reduceNeg, Int.reduceLT, Int.reduceLE, Int.reduceToNat, Int.reducePow, Nat.reducePow, List.flatten_cons, List.flatten_nil, List.append_nil, true_and, and_true, true_or, or_true, eq_self, and_self, decide_true, decide_false, Bool.not_true, Bool.not_false, Bool.not_not, Option.isSome_some, Bool.and_true, Bool.true_and, Bool.and_self, reduceIte, ↓reduceIte, Bool.false_eq_true, ite_self, reduceCtorEq, ne_eq, not_false_eq_true, forall_const, ↓x_gtup, ↓a_repr, ↓x_min1, ↓a_min2S, ↓x_yes, ↓x_ite, x_gnil, walk_l, walk_t, walk_s]
          rw [signs_drop, rev_drop]
          unfold rpush at fin
          simp only [hx, if_pos] at fin
          exact fin
        · refine br_neg (decide_eq_false (by simpa using hx)) ?_
          simp -dsimp only [↓opt_some, ↓br_true, ↓br_false, ↓nameC_d, ↓nameC_own, ↓nameC_dK, ↓nameC_dT, ↓x_name, ↓fzC_d, ↓fzC_own, ↓x_fzn, ↓x_fzd, ↓x_fzo, ↓x_rvn, ↓x_rvd, ↓x_rvo, ↓retC_d, ↓retC_own, ↓x_retn, ↓x_retd, ↓x_reto, ↓x_hd, ↓x_ho, ↓x_hn, ↓x_ad, ↓x_ao, ↓x_an, ↓x_set, ↓x_seq, ↓x_next, ↓x_break, ↓x_cont, ↓x_drop, ↓x_ret, ↓x_retN, ↓x_if, ↓x_asg, ↓x_asgG, ↓x_while, ↓x_for, ↓x_2, ↓x_1, ↓x_D, ↓bC_b, ↓x_B, ↓x_and, ↓x_or, ↓x_not, ↓x_andV, ↓x_orV, ↓x_notV, ↓x_tif, ↓x_nil, ↓x_cons, ↓x_tup, ↓x_lst, ↓x_rnil, ↓x_rcons, ↓x_callP, ↓x_rvLc, ↓x_rvLn, ↓x_meth, ↓x_meth0, ↓x_mut, ↓x_mg, ↓x_ms, ↓x_sl, ↓x_on, ↓iC_i, ↓x_os, ↓x_lc, ↓x_any, ↓x_pure, ↓sC_s, ↓x_rev, ↓x_call, ↓x_gn, ↓x_gnil, ↓x_gcons, ↓x_isi, ↓a_ii, ↓a_ss, ↓a_ll, ↓a_tt, ↓a_I, ↓a_neg, ↓a_mul, ↓a_mulL, ↓a_mulS, ↓a_eq, ↓a_ne, ↓a_lt, ↓a_le, ↓a_gt, ↓a_ge, ↓a_ltS, ↓a_leS, ↓a_inS, ↓a_ninS, ↓a_inL, ↓a_ninL, ↓a_inT, ↓a_ninT, ↓a_ixL, ↓a_ixT, ↓a_ixS, ↓a_ixR, ↓a_ixB, ↓a_slL, ↓a_slT, ↓a_slS, ↓a_lenS, ↓a_lenL, ↓a_lenT, ↓a_lenR, ↓a_join, ↓a_ixof, ↓a_ixofL, ↓a_rng1, ↓a_rng2, ↓a_min2, ↓a_max2, ↓a_lstS, ↓a_lstL, ↓a_lstT, ↓a_int, ↓a_intB, ↓a_isN, ↓x_popAt, ↓x_all, ↓x_anyB, ↓a_isB, ↓a_pop, ↓x_dict0, ↓x_aK, ↓x_kg, ↓x_ks, ↓x_dg, ↓x_di, ↓x_dpt, ↓x_enum, ↓a_backL, ↓a_backT, ↓x_never, ↓a_tupL, ↓a_tupT, ↓x_sort, ↓x_sortS, ↓x_sortP, ↓a_slR, ↓x_zip, ↓x_sum, ↓a_count, ↓augC_i, ↓x_aug, rvC_d, rvC_own, consO_s, isTy_s, isTy_l, mgC_own, walk_l, walk_t, walk_s, toR_d, toR_o, items_l, items_t, ok_s, ok_i, ok_b, ok_n, ok_l, ok_t, okL_n, okL_c, e_ss, e_ii, e_bb, e_ll, e_tt, eL_nn, eL_cc, eL_nc, eL_cn, ty_s, ty_i, ty_l, ty_b, kgC_dK, key_i, key_s, kI_eq, kS_eq, oneR_1, walkE_l, walkE_t, walkE_s, ty_t, twoR_2, side_l, side_t, m_app, m_ext, m_rev, sline, startC, restE, restC, wipeE, wipeC, plainC, List.getElem?_cons_zero, List.getElem?_cons_succ, List.getD_cons_zero, List.getD_cons_succ, List.set_cons_zero, List.set_cons_succ, List.length_cons, List.length_nil, List.map_cons, List.map_nil, List.replicate_succ, List.replicate_zero, List.cons_append, List.nil_append, Nat.reduceAdd, Nat.reduceMul, Int.reduceAdd, Int.reduceSub, Int.reduceMul, Nat.reduceSub, Nat.reduceLT, Nat.reduceLeDiff, Nat.lt_add_one, Int.reduceNeg, Int.reduceLT, Int.reduceLE, Int.reduceToNat, Int.reducePow, Nat.reducePow, List.flatten_cons, List.flatten_nil, List.append_nil, true_and, and_true, true_or, or_true, eq_self, and_self, decide_true, decide_false, Bool.not_true, Bool.not_false, Bool.not_not, Option.isSome_some, Bool.and_true, Bool.true_and, Bool.and_self, reduceIte, ↓reduceIte, Bool.false_eq_true, ite_self, reduceCtorEq, ne_eq, not_false_eq_true, forall_const, ↓x_gtup, ↓a_repr, ↓x_min1, ↓a_min2S, ↓x_yes, ↓x_ite, x_gnil, walk_l, walk_t, walk_s]
          exact ⟨app.1, app.2 (by unfold rpush; simp only; rw [if_neg hx])⟩
  · exact h.elim
/-! ### words shortest -/
def cyc (w : List Nat) : List Nat := if 1 < w.length ∧ w.head? = w.getLast?.map con then cyc w.tail.dropLast else w
termination_by w.length
decreasing_by simp; omega
def m_shortest : PM := fun ds st Q => match ds with
  | [.str w] => IsW w ∧ w.length ≤ 16777216 ∧ Q (.d (.str (cyc (red w)))) st
  | _ => False
theorem e_shortest {w s Q} : m_shortest [.str w] s Q = (IsW w ∧ w.length ≤ 16777216 ∧ Q (.d (.str (cyc (red w)))) s) := rfl
def t_shortest : PTS := sSeq (sAsg 1 (tCall0 m_shortened (tCons (tName 0) (tNil)))) (sSeq (sWhile (tAnd (tB (t2 (tCallP pLen (rCons (tName 1) (rNil))) (tD (.int 1)) pGt)) (tB (t2 (t2 (tName 1) (tD (.int 0)) pIx) (tCall0 m_contrary (tCons (t2 (tName 1) (t1 (tD (.int 1)) pNeg) pIx) (tNil))) pEq))) (sAsg 1 (tSl (tName 1) (oSome (tD (.int 1))) (oSome (t1 (tD (.int 1)) pNeg))))) (sRet (tName 1)))
abbrev N_shortest : List Str := ["word", "left"]
theorem len_shortest (ds : List D) (s : Sto) (Q : C → Sto → Prop) (h : m_shortest ds s Q) : ds.length = 1 := by
  unfold m_shortest at h
  split at h
  · rfl
  · exact h.elim
theorem ends_of {v : List Nat} (h : 0 < v.length) : ∃ a b, v.head? = some a ∧ v.getLast? = some b ∧ a ∈ v ∧ b ∈ v := by
  have hv : v ≠ [] := List.length_pos_iff.mp h
  refine ⟨v.head hv, v.getLast hv, List.head?_eq_some_head hv, List.getLast?_eq_some_getLast hv, List.head_mem hv, List.getLast_mem hv⟩
theorem cyc_in {v : List Nat} {a b : Nat} (h : 1 < v.length) (ha : v.head? = some a) (hb : v.getLast? = some b) (e : a = con b) : cyc v = cyc v.tail.dropLast := by
  rw [cyc, if_pos ⟨h, by rw [ha, hb, e]; rfl⟩]
theorem cyc_out {v : List Nat} {a b : Nat} (ha : v.head? = some a) (hb : v.getLast? = some b) (e : a ≠ con b) : cyc v = v := by
  rw [cyc, if_neg]
  rw [ha, hb]
  simp
  exact fun _ => e
theorem cyc_one {v : List Nat} (h : ¬ 1 < v.length) : cyc v = v := by rw [cyc, if_neg (fun z => h z.1)]
theorem inner_W {v : List Nat} (h : IsW v) : IsW v.tail.dropLast := fun c hc => h c (List.mem_of_mem_tail (List.dropLast_subset _ hc))
theorem cyc_W {v : List Nat} (h : IsW v) : IsW (cyc v) := by
  generalize hn : v.length = n
  induction n using Nat.strongRecOn generalizing v with
  | _ n ih =>
    rw [cyc]
    split
    · rename_i hc
      exact ih _ (by simp; omega) (inner_W h) rfl
    · exact h
theorem cyc_len (v : List Nat) : (cyc v).length ≤ v.length := by
  generalize hn : v.length = n
  induction n using Nat.strongRecOn generalizing v with
  | _ n ih =>
    rw [cyc]
    split
    · rename_i hc
      have := ih v.tail.dropLast.length (by simp; omega) _ rfl
      simp at this
      omega
    · omega
theorem p_shortest (ds : List D) (s : Sto) (Q : C → Sto → Prop) (h : m_shortest ds s Q) : t_shortest noX { nx := fun e => Q (.d .non) e.st, rt := fun c e => Q c e.st } ⟨startC N_shortest ds, s⟩ := by
  unfold m_shortest at h
  split at h
  · rename_i w
    obtain ⟨hw, hl, q⟩ := h
    unfold t_shortest
    simp -dsimp only [↓opt_some, ↓br_true, ↓br_false, ↓nameC_d, ↓nameC_own, ↓nameC_dK, ↓nameC_dT, ↓x_name, ↓fzC_d, ↓fzC_own, ↓x_fzn, ↓x_fzd, ↓x_fzo, ↓x_rvn, ↓x_rvd, ↓x_rvo, ↓retC_d, ↓retC_own, ↓x_retn, ↓x_retd, ↓x_reto, ↓x_hd, ↓x_ho, ↓x_hn, ↓x_ad, ↓x_ao, ↓x_an, ↓x_set, ↓x_seq, ↓x_next, ↓x_break, ↓x_cont, ↓x_drop, ↓x_ret, ↓x_retN, ↓x_if, ↓x_asg, ↓x_asgG, ↓x_while, ↓x_for, ↓x_2, ↓x_1, ↓x_D, ↓bC_b, ↓x_B, ↓x_and, ↓x_or, ↓x_not, ↓x_andV, ↓x_orV, ↓x_notV, ↓x_tif, ↓x_nil, ↓x_cons, ↓x_tup, ↓x_lst, ↓x_rnil, ↓x_rcons, ↓x_callP, ↓x_rvLc, ↓x_rvLn, ↓x_meth, ↓x_meth0, ↓x_mut, ↓x_mg, ↓x_ms, ↓x_sl, ↓x_on, ↓iC_i, ↓x_os, ↓x_lc, ↓x_any, ↓x_pure, ↓sC_s, ↓x_rev, ↓x_call, ↓x_gn, ↓x_gnil, ↓x_gcons, ↓x_isi, ↓a_ii, ↓a_ss, ↓a_ll, ↓a_tt, ↓a_I, ↓a_neg, ↓a_mul, ↓a_mulL, ↓a_mulS, ↓a_eq, ↓a_ne, ↓a_lt, ↓a_le, ↓a_gt, ↓a_ge, ↓a_ltS, ↓a_leS, ↓a_inS, ↓a_ninS, ↓a_inL, ↓a_ninL, ↓a_inT, ↓a_ninT, ↓a_ixL, ↓a_ixT, ↓a_ixS, ↓a_ixR, ↓a_ixB, ↓a_slL, ↓a_slT, ↓a_slS, ↓a_lenS, ↓a_lenL, ↓a_lenT, ↓a_lenR, ↓a_join, ↓a_ixof, ↓a_ixofL, ↓a_rng1, ↓a_rng2, ↓a_min2, ↓a_max2, ↓a_lstS, ↓a_lstL, ↓a_lstT, ↓a_int, ↓a_intB, ↓a_isN, ↓x_popAt, ↓x_all, ↓x_anyB, ↓a_isB, ↓a_pop, ↓x_dict0, ↓x_aK, ↓x_kg, ↓x_ks, ↓x_dg, ↓x_di, ↓x_dpt, ↓x_enum, ↓a_backL, ↓a_backT, ↓x_never, ↓a_tupL, ↓a_tupT, ↓x_sort, ↓x_sortS, ↓x_sortP, ↓a_slR, ↓x_zip, ↓x_sum, ↓a_count, ↓augC_i, ↓x_aug, rvC_d, rvC_own, consO_s, isTy_s, isTy_l, mgC_own, walk_l, walk_t, walk_s, toR_d, toR_o, items_l, items_t, ok_s, ok_i, ok_b, ok_n, ok_l, ok_t, okL_n, okL_c, e_ss, e_ii, e_bb, e_ll, e_tt, eL_nn, eL_cc, eL_nc, eL_cn, ty_s, ty_i, ty_l, ty_b, kgC_dK, key_i, key_s, kI_eq, kS_eq, oneR_1, walkE_l, walkE_t, walkE_s, ty_t, twoR_2, side_l, side_t, m_app, m_ext, m_rev, sline, startC, restE, restC, wipeE, wipeC, plainC, List.getElem?_cons_zero, List.getElem?_cons_succ, List.getD_cons_zero, List.getD_cons_succ, List.set_cons_zero, List.set_cons_succ, List.length_cons, List.length_nil, List.map_cons, List.map_nil, List.replicate_succ, List.replicate_zero, List.cons_append, List.nil_append, Nat.reduceAdd, Nat.reduceMul, Int.reduceAdd, Int.reduceSub, Int.reduceMul, Nat.reduceSub, Nat.reduceLT, Nat.reduceLeDiff, Nat.lt_add_one, Int.reduceNeg, Int.reduceLT, Int.reduceLE, Int.reduceToNat, Int.reducePow, Nat.reducePow, List.flatten_cons, List.flatten_nil, List.append_nil, true_and, and_true, true_or, or_true, eq_self, and_self, decide_true, decide_false, Bool.not_true, Bool.not_false, Bool.not_not, Option.isSome_some, Bool.and_true, Bool.true_and, Bool.and_self, reduceIte, ↓reduceIte, Bool.false_eq_true, ite_self, reduceCtorEq, ne_eq, not_false_eq_true, forall_const, ↓x_gtup, ↓a_repr, ↓x_min1, ↓a_min2S, ↓x_yes, ↓x_ite, x_gnil, walk_l, walk_t, walk_s, e_shortened]
    refine ⟨hw, hl, ?_⟩
    refine wh_on (fun v : List Nat => ⟨[.d (.str w), .d (.str v)], s⟩) (fun v => IsW v ∧ cyc v = cyc (red w)) List.length (red w) rfl ⟨red_W hw, rfl⟩ ?_
    rintro v ⟨hv, hc⟩ N hN
    simp -dsimp only [↓opt_some, ↓br_true, ↓br_false, ↓nameC_d, ↓nameC_own, ↓nameC_dK, ↓nameC_dT, ↓x_name, ↓fzC_d, ↓fzC_own, ↓x_fzn, ↓x_fzd, ↓x_fzo, ↓x_rvn, ↓x_rvd, ↓x_rvo, ↓retC_d, ↓retC_own, ↓x_retn, ↓x_retd, ↓x_reto, ↓x_hd, ↓x_ho, ↓x_hn, ↓x_ad, ↓x_ao, ↓x_an, ↓x_set, ↓x_seq, ↓x_next, ↓x_break, ↓x_cont, ↓x_drop, ↓x_ret, ↓x_retN, ↓x_if, ↓x_asg, ↓x_asgG, ↓x_while, ↓x_for, ↓x_2, ↓x_1, ↓x_D, ↓bC_b, ↓x_B, ↓x_and, ↓x_or, ↓x_not, ↓x_andV, ↓x_orV, ↓x_notV, ↓x_tif, ↓x_nil, ↓x_cons, ↓x_tup, ↓x_lst, ↓x_rnil, ↓x_rcons, ↓x_callP, ↓x_rvLc, ↓x_rvLn, ↓x_meth, ↓x_meth0, ↓x_mut, ↓x_mg, ↓x_ms, ↓x_sl, ↓x_on, ↓iC_i, ↓x_os, ↓x_lc, ↓x_any, ↓x_pure, ↓sC_s, ↓x_rev, ↓x_call, ↓x_gn, ↓x_gnil, ↓x_gcons, ↓x_isi, ↓a_ii, ↓a_ss, ↓a_ll, ↓a_tt, ↓a_I, ↓a_neg, ↓a_mul, ↓a_mulL, ↓a_mulS, ↓a_eq, ↓a_ne, ↓a_lt, ↓a_le, ↓a_gt, ↓a_ge, ↓a_ltS, ↓a_leS, ↓a_inS, ↓a_ninS, ↓a_inL, ↓a_ninL, ↓a_inT, ↓a_ninT, ↓a_ixL, ↓a_ixT, ↓a_ixS, ↓a_ixR, ↓a_ixB, ↓a_slL, ↓a_slT, ↓a_slS, ↓a_lenS, ↓a_lenL, ↓a_lenT, ↓a_lenR, ↓a_join, ↓a_ixof, ↓a_ixofL, ↓a_rng1, ↓a_rng2, ↓a_min2, ↓a_max2, ↓a_lstS, ↓a_lstL, ↓a_lstT, ↓a_int, ↓a_intB, ↓a_isN, ↓x_popAt, ↓x_all, ↓x_anyB, ↓a_isB, ↓a_pop, ↓x_dict0, ↓x_aK, ↓x_kg, ↓x_ks, ↓x_dg, ↓x_di, ↓x_dpt, ↓x_enum, ↓a_backL, ↓a_backT, ↓x_never, ↓a_tupL, ↓a_tupT, ↓x_sort, ↓x_sortS, ↓x_sortP, ↓a_slR, ↓x_zip, ↓x_sum, ↓a_count, ↓augC_i, ↓x_aug, rvC_d, rvC_own, consO_s, isTy_s, isTy_l, mgC_own, walk_l, walk_t, walk_s, toR_d, toR_o, items_l, items_t, ok_s, ok_i, ok_b, ok_n, ok_l, ok_t, okL_n, okL_c, e_ss, e_ii, e_bb, e_ll, e_tt, eL_nn, eL_cc, eL_nc, eL_cn, ty_s, ty_i, ty_l, ty_b, kgC_dK, key_i, key_s, kI_eq, kS_eq, oneR_1, walkE_l, walkE_t, walkE_s, ty_t, twoR_2, side_l, side_t, m_app, m_ext, m_rev, sline, startC, restE, restC, wipeE, wipeC, plainC, List.getElem?_cons_zero, List.getElem?_cons_succ, List.getD_cons_zero, List.getD_cons_succ, List.set_cons_zero, List.set_cons_succ, List.length_cons, List.length_nil, List.map_cons, List.map_nil, List.replicate_succ, List.replicate_zero, List.cons_append, List.nil_append, Nat.reduceAdd, Nat.reduceMul, Int.reduceAdd, Int.reduceSub, Int.reduceMul, Nat.reduceSub, Nat.reduceLT, Nat.reduceLeDiff, Nat.lt_add_one, Int.reduceNeg, Int.reduceLT, Int.reduceLE, Int.reduceToNat, Int.reducePow, Nat.reducePow, List.flatten_cons, List.flatten_nil, List.append_nil, true_and, and_true, true_or, or_true, eq_self, and_self, decide_true, decide_false, Bool.not_true, Bool.not_false, Bool.not_not, Option.isSome_some, Bool.and_true, Bool.true_and, Bool.and_self, reduceIte, ↓reduceIte, Bool.false_eq_true, ite_self, reduceCtorEq, ne_eq, not_false_eq_true, forall_const, ↓x_gtup, ↓a_repr, ↓x_min1, ↓a_min2S, ↓x_yes, ↓x_ite, x_gnil, walk_l, walk_t, walk_s]
    by_cases h1 : 1 < v.length
    · refine br_pos (decide_eq_true (by omega)) ?_
      obtain ⟨a, b, ha, hb, ma, mb⟩ := ends_of (v := v) (by omega)
      simp -dsimp only [↓opt_some, ↓br_true, ↓br_false, ↓nameC_d, ↓nameC_own, ↓nameC_dK, ↓nameC_dT, ↓x_name, ↓fzC_d, ↓fzC_own, ↓x_fzn, ↓x_fzd, ↓x_fzo, ↓x_rvn, ↓x_rvd, ↓x_rvo, ↓retC_d, ↓retC_own, ↓x_retn, ↓x_retd, ↓x_reto, ↓x_hd, ↓x_ho, ↓x_hn, ↓x_ad, ↓x_ao, ↓x_an, ↓x_set, ↓x_seq, ↓x_next, ↓x_break, ↓x_cont, ↓x_drop, ↓x_ret, ↓x_retN, ↓x_if, ↓x_asg, ↓x_asgG, ↓x_while, ↓x_for, ↓x_2, ↓x_1, ↓x_D, ↓bC_b, ↓x_B, ↓x_and, ↓x_or, ↓x_not, ↓x_andV, ↓x_orV, ↓x_notV, ↓x_tif, ↓x_nil, ↓x_cons, ↓x_tup, ↓x_lst, ↓x_rnil, ↓x_rcons, ↓x_callP, ↓x_rvLc, ↓x_rvLn, ↓x_meth, ↓x_meth0, ↓x_mut, ↓x_mg, ↓x_ms, ↓x_sl, ↓x_on, ↓iC_i, ↓x_os, ↓x_lc, ↓x_any, ↓x_pure, ↓sC_s, ↓x_rev, ↓x_call, ↓x_gn, ↓x_gnil, ↓x_gcons, ↓x_isi, ↓a_ii, ↓a_ss, ↓a_ll, ↓a_tt, ↓a_I, ↓a_neg, ↓a_mul, ↓a_mulL, ↓a_mulS, ↓a_eq, ↓a_ne, ↓a_lt, ↓a_le, ↓a_gt, ↓a_ge, ↓a_ltS, ↓a_leS, ↓a_inS, ↓a_ninS, ↓a_inL, ↓a_ninL, ↓a_inT, ↓a_ninT, ↓a_ixL, ↓a_ixT, ↓a_ixS, ↓a_ixR, ↓a_ixB, ↓a_slL, ↓a_slT, ↓a_slS, ↓a_lenS, ↓a_lenL, ↓a_lenT, ↓a_lenR, ↓a_join, ↓a_ixof, ↓a_ixofL, ↓a_rng1, ↓a_rng2, ↓a_min2, ↓a_max2, ↓a_lstS, ↓a_lstL, ↓a_lstT, ↓a_int, ↓a_intB, ↓a_isN, ↓x_popAt, ↓x_all, ↓x_anyB, ↓a_isB, ↓a_pop, ↓x_dict0, ↓x_aK, ↓x_kg, ↓x_ks, ↓x_dg, ↓x_di, ↓x_dpt, ↓x_enum, ↓a_backL, ↓a_backT, ↓x_never, ↓a_tupL, ↓a_tupT, ↓x_sort, ↓x_sortS, ↓x_sortP, ↓a_slR, ↓x_zip, ↓x_sum, ↓a_count, ↓augC_i, ↓x_aug, rvC_d, rvC_own, consO_s, isTy_s, isTy_l, mgC_own, walk_l, walk_t, walk_s, toR_d, toR_o, items_l, items_t, ok_s, ok_i, ok_b, ok_n, ok_l, ok_t, okL_n, okL_c, e_ss, e_ii, e_bb, e_ll, e_tt, eL_nn, eL_cc, eL_nc, eL_cn, ty_s, ty_i, ty_l, ty_b, kgC_dK, key_i, key_s, kI_eq, kS_eq, oneR_1, walkE_l, walkE_t, walkE_s, ty_t, twoR_2, side_l, side_t, m_app, m_ext, m_rev, sline, startC, restE, restC, wipeE, wipeC, plainC, List.getElem?_cons_zero, List.getElem?_cons_succ, List.getD_cons_zero, List.getD_cons_succ, List.set_cons_zero, List.set_cons_succ, List.length_cons, List.length_nil, List.map_cons, List.map_nil, List.replicate_succ, List.replicate_zero, List.cons_append, List.nil_append, Nat.reduceAdd, Nat.reduceMul, Int.reduceAdd, Int.reduceSub, Int.reduceMul, Nat.reduceSub, Nat.reduceLT, Nat.reduceLeDiff, Nat.lt_add_one, Int.reduceNeg, Int.reduceLT, Int.reduceLE, Int.reduceToNat, Int.reducePow, Nat.reducePow, List.flatten_cons, List.flatten_nil, List.append_nil, true_and, and_true, true_or, or_true, eq_self, and_self, decide_true, decide_false, Bool.not_true, Bool.not_false, Bool.not_not, Option.isSome_some, Bool.and_true, Bool.true_and, Bool.and_self, reduceIte, ↓reduceIte, Bool.false_eq_true, ite_self, reduceCtorEq, ne_eq, not_false_eq_true, forall_const, ↓x_gtup, ↓a_repr, ↓x_min1, ↓a_min2S, ↓x_yes, ↓x_ite, x_gnil, walk_l, walk_t, walk_s]
      refine at_head ha ?_
      simp -dsimp only [↓opt_some, ↓br_true, ↓br_false, ↓nameC_d, ↓nameC_own, ↓nameC_dK, ↓nameC_dT, ↓x_name, ↓fzC_d, ↓fzC_own, ↓x_fzn, ↓x_fzd, ↓x_fzo, ↓x_rvn, ↓x_rvd, ↓x_rvo, ↓retC_d, ↓retC_own, ↓x_retn, ↓x_retd, ↓x_reto, ↓x_hd, ↓x_ho, ↓x_hn, ↓x_ad, ↓x_ao, ↓x_an, ↓x_set, ↓x_seq, ↓x_next, ↓x_break, ↓x_cont, ↓x_drop, ↓x_ret, ↓x_retN, ↓x_if, ↓x_asg, ↓x_asgG, ↓x_while, ↓x_for, ↓x_2, ↓x_1, ↓x_D, ↓bC_b, ↓x_B, ↓x_and, ↓x_or, ↓x_not, ↓x_andV, ↓x_orV, ↓x_notV, ↓x_tif, ↓x_nil, ↓x_cons, ↓x_tup, ↓x_lst, ↓x_rnil, ↓x_rcons, ↓x_callP, ↓x_rvLc, ↓x_rvLn, ↓x_meth, ↓x_meth0, ↓x_mut, ↓x_mg, ↓x_ms, ↓x_sl, ↓x_on, ↓iC_i, ↓x_os, ↓x_lc, ↓x_any, ↓x_pure, ↓sC_s, ↓x_rev, ↓x_call, ↓x_gn, ↓x_gnil, ↓x_gcons, ↓x_isi, ↓a_ii, ↓a_ss, ↓a_ll, ↓a_tt, ↓a_I, ↓a_neg, ↓a_mul, ↓a_mulL, ↓a_mulS, ↓a_eq, ↓a_ne, ↓a_lt, ↓a_le, ↓a_gt, ↓a_ge, ↓a_ltS, ↓a_leS, ↓a_inS, ↓a_ninS, ↓a_inL, ↓a_ninL, ↓a_inT, ↓a_ninT, ↓a_ixL, ↓a_ixT, ↓a_ixS, ↓a_ixR, ↓a_ixB, ↓a_slL, ↓a_slT, ↓a_slS, ↓a_lenS, ↓a_lenL, ↓a_lenT, ↓a_lenR, ↓a_join, ↓a_ixof, ↓a_ixofL, ↓a_rng1, ↓a_rng2, ↓a_min2, ↓a_max2, ↓a_lstS, ↓a_lstL, ↓a_lstT, ↓a_int, ↓a_intB, ↓a_isN, ↓x_popAt, ↓x_all, ↓x_anyB, ↓a_isB, ↓a_pop, ↓x_dict0, ↓x_aK, ↓x_kg, ↓x_ks, ↓x_dg, ↓x_di, ↓x_dpt, ↓x_enum, ↓a_backL, ↓a_backT, ↓x_never, ↓a_tupL, ↓a_tupT, ↓x_sort, ↓x_sortS, ↓x_sortP, ↓a_slR, ↓x_zip, ↓x_sum, ↓a_count, ↓augC_i, ↓x_aug, rvC_d, rvC_own, consO_s, isTy_s, isTy_l, mgC_own, walk_l, walk_t, walk_s, toR_d, toR_o, items_l, items_t, ok_s, ok_i, ok_b, ok_n, ok_l, ok_t, okL_n, okL_c, e_ss, e_ii, e_bb, e_ll, e_tt, eL_nn, eL_cc, eL_nc, eL_cn, ty_s, ty_i, ty_l, ty_b, kgC_dK, key_i, key_s, kI_eq, kS_eq, oneR_1, walkE_l, walkE_t, walkE_s, ty_t, twoR_2, side_l, side_t, m_app, m_ext, m_rev, sline, startC, restE, restC, wipeE, wipeC, plainC, List.getElem?_cons_zero, List.getElem?_cons_succ, List.getD_cons_zero, List.getD_cons_succ, List.set_cons_zero, List.set_cons_succ, List.length_cons, List.length_nil, List.map_cons, List.map_nil, List.replicate_succ, List.replicate_zero, List.cons_append, List.nil_append, Nat.reduceAdd, Nat.reduceMul, Int.reduceAdd, Int.reduceSub, Int.reduceMul, Nat.reduceSub, Nat.reduceLT, Nat.reduceLeDiff, Nat.lt_add_one, Int.reduceNeg, Int.reduceLT, Int.reduceLE, Int.reduceToNat, Int.reducePow, Nat.reducePow, List.flatten_cons, List.flatten_nil, List.append_nil, true_and, and_true, true_or, or_true, eq_self, and_self, decide_true, decide_false, Bool.not_true, Bool.not_false, Bool.not_not, Option.isSome_some, Bool.and_true, Bool.true_and, Bool.and_self, reduceIte, ↓reduceIte, Bool.false_eq_true, ite_self, reduceCtorEq, ne_eq, not_false_eq_true, forall_const, ↓x_gtup, ↓a_repr, ↓x_min1, ↓a_min2S, ↓x_yes, ↓x_ite, x_gnil, walk_l, walk_t, walk_s]
      refine at_last hb ?_
      simp -dsimp only [↓opt_some, ↓br_true, ↓br_false, ↓nameC_d, ↓nameC_own, ↓nameC_dK, ↓nameC_dT, ↓x_name, ↓fzC_d, ↓fzC_own, ↓x_fzn, ↓x_fzd, ↓x_fzo, ↓x_rvn, ↓x_rvd, ↓x_rvo, ↓retC_d, ↓retC_own, ↓x_retn, ↓x_retd, ↓x_reto, ↓x_hd, ↓x_ho, ↓x_hn, ↓x_ad, ↓x_ao, ↓x_an, ↓x_set, ↓x_seq, ↓x_next, ↓x_break, ↓x_cont, ↓x_drop, ↓x_ret, ↓x_retN, ↓x_if, ↓x_asg, ↓x_asgG, ↓x_while, ↓x_for, ↓x_2, ↓x_1, ↓x_D, ↓bC_b, ↓x_B, ↓x_and, ↓x_or, ↓x_not, ↓x_andV, ↓x_orV, ↓x_notV, ↓x_tif, ↓x_nil, ↓x_cons, ↓x_tup, ↓x_lst, ↓x_rnil, ↓x_rcons, ↓x_callP, ↓x_rvLc, ↓x_rvLn, ↓x_meth, ↓x_meth0, ↓x_mut, ↓x_mg, ↓x_ms, ↓x_sl, ↓x_on, ↓iC_i, ↓x_os, ↓x_lc, ↓x_any, ↓x_pure, ↓sC_s, ↓x_rev, ↓x_call, ↓x_gn, ↓x_gnil, ↓x_gcons, ↓x_isi, ↓a_ii, ↓a_ss, ↓a_ll, ↓a_tt, ↓a_I, ↓a_neg, ↓a_mul, ↓a_mulL, ↓a_mulS, ↓a_eq, ↓a_ne, ↓a_lt, ↓a_le, ↓a_gt, ↓a_ge, ↓a_ltS, ↓a_leS, ↓a_inS, ↓a_ninS, ↓a_inL, ↓a_ninL, ↓a_inT, ↓a_ninT, ↓a_ixL, ↓a_ixT, ↓a_ixS, ↓a_ixR, ↓a_ixB, ↓a_slL, ↓a_slT, ↓a_slS, ↓a_lenS, ↓a_lenL, ↓a_lenT, ↓a_lenR, ↓a_join, ↓a_ixof, ↓a_ixofL, ↓a_rng1, ↓a_rng2, ↓a_min2, ↓a_max2, ↓a_lstS, ↓a_lstL, ↓a_lstT, ↓a_int, ↓a_intB, ↓a_isN, ↓x_popAt, ↓x_all, ↓x_anyB, ↓a_isB, ↓a_pop, ↓x_dict0, ↓x_aK, ↓x_kg, ↓x_ks, ↓x_dg, ↓x_di, ↓x_dpt, ↓x_enum, ↓a_backL, ↓a_backT, ↓x_never, ↓a_tupL, ↓a_tupT, ↓x_sort, ↓x_sortS, ↓x_sortP, ↓a_slR, ↓x_zip, ↓x_sum, ↓a_count, ↓augC_i, ↓x_aug, rvC_d, rvC_own, consO_s, isTy_s, isTy_l, mgC_own, walk_l, walk_t, walk_s, toR_d, toR_o, items_l, items_t, ok_s, ok_i, ok_b, ok_n, ok_l, ok_t, okL_n, okL_c, e_ss, e_ii, e_bb, e_ll, e_tt, eL_nn, eL_cc, eL_nc, eL_cn, ty_s, ty_i, ty_l, ty_b, kgC_dK, key_i, key_s, kI_eq, kS_eq, oneR_1, walkE_l, walkE_t, walkE_s, ty_t, twoR_2, side_l, side_t, m_app, m_ext, m_rev, sline, startC, restE, restC, wipeE, wipeC, plainC, List.getElem?_cons_zero, List.getElem?_cons_succ, List.getD_cons_zero, List.getD_cons_succ, List.set_cons_zero, List.set_cons_succ, List.length_cons, List.length_nil, List.map_cons, List.map_nil, List.replicate_succ, List.replicate_zero, List.cons_append, List.nil_append, Nat.reduceAdd, Nat.reduceMul, Int.reduceAdd, Int.reduceSub, Int.reduceMul, Nat.reduceSub, Nat.reduceLT, Nat.reduceLeDiff, Nat.lt_add_one, Int.reduceNeg, Int.reduceLT, Int.reduceLE, Int.reduceToNat, Int.reducePow, Nat.reducePow, List.flatten_cons, List.flatten_nil, List.append_nil, true_and, and_true, true_or, or_true, eq_self, and_self, decide_true, decide_false, Bool.not_true, Bool.not_false, Bool.not_not, Option.isSome_some, Bool.and_true, Bool.true_and, Bool.and_self, reduceIte, ↓reduceIte, Bool.false_eq_true, ite_self, reduceCtorEq, ne_eq, not_false_eq_true, forall_const, ↓x_gtup, ↓a_repr, ↓x_min1, ↓a_min2S, ↓x_yes, ↓x_ite, x_gnil, walk_l, walk_t, walk_s, e_contrary]
      refine ⟨hv b mb, ?_⟩
      by_cases e : a = con b
      · refine br_pos (decide_eq_true (by rw [e])) ?_
        simp -dsimp only [↓opt_some, ↓br_true, ↓br_false, ↓nameC_d, ↓nameC_own, ↓nameC_dK, ↓nameC_dT, ↓x_name, ↓fzC_d, ↓fzC_own, ↓x_fzn, ↓x_fzd, ↓x_fzo, ↓x_rvn, ↓x_rvd, ↓x_rvo, ↓retC_d, ↓retC_own, ↓x_retn, ↓x_retd, ↓x_reto, ↓x_hd, ↓x_ho, ↓x_hn, ↓x_ad, ↓x_ao, ↓x_an, ↓x_set, ↓x_seq, ↓x_next, ↓x_break, ↓x_cont, ↓x_drop, ↓x_ret, ↓x_retN, ↓x_if, ↓x_asg, ↓x_asgG, ↓x_while, ↓x_for, ↓x_2, ↓x_1, ↓x_D, ↓bC_b, ↓x_B, ↓x_and, ↓x_or, ↓x_not, ↓x_andV, ↓x_orV, ↓x_notV, ↓x_tif, ↓x_nil, ↓x_cons, ↓x_tup, ↓x_lst, ↓x_rnil, ↓x_rcons, ↓x_callP, ↓x_rvLc, ↓x_rvLn, ↓x_meth, ↓x_meth0, ↓x_mut, ↓x_mg, ↓x_ms, ↓x_sl, ↓x_on, ↓iC_i, ↓x_os, ↓x_lc, ↓x_any, ↓x_pure, ↓sC_s, ↓x_rev, ↓x_call, ↓x_gn, ↓x_gnil, ↓x_gcons, ↓x_isi, ↓a_ii, ↓a_ss, ↓a_ll, ↓a_tt, ↓a_I, ↓a_neg, ↓a_mul, ↓a_mulL, ↓a_mulS, ↓a_eq, ↓a_ne, ↓a_lt, ↓a_le, ↓a_gt, ↓a_ge, ↓a_ltS, ↓a_leS, ↓a_inS, ↓a_ninS, ↓a_inL, ↓a_ninL, ↓a_inT, ↓a_ninT, ↓a_ixL, ↓a_ixT, ↓a_ixS, ↓a_ixR, ↓a_ixB, ↓a_slL, ↓a_slT, ↓a_slS, ↓a_lenS, ↓a_lenL, ↓a_lenT, ↓a_lenR, ↓a_join, ↓a_ixof, ↓a_ixofL, ↓a_rng1, ↓a_rng2, ↓a_min2, ↓a_max2, ↓a_lstS, ↓a_lstL, ↓a_lstT, ↓a_int, ↓a_intB, ↓a_isN, ↓x_popAt, ↓x_all, ↓x_anyB, ↓a_isB, ↓a_pop, ↓x_dict0, ↓x_aK, ↓x_kg, ↓x_ks, ↓x_dg, ↓x_di, ↓x_dpt, ↓x_enum, ↓a_backL, ↓a_backT, ↓x_never, ↓a_tupL, ↓a_tupT, ↓x_sort, ↓x_sortS, ↓x_sortP, ↓a_slR, ↓x_zip, ↓x_sum, ↓a_count, ↓augC_i, ↓x_aug, rvC_d, rvC_own, consO_s, isTy_s, isTy_l, mgC_own, walk_l, walk_t, walk_s, toR_d, toR_o, items_l, items_t, ok_s, ok_i, ok_b, ok_n, ok_l, ok_t, okL_n, okL_c, e_ss, e_ii, e_bb, e_ll, e_tt, eL_nn, eL_cc, eL_nc, eL_cn, ty_s, ty_i, ty_l, ty_b, kgC_dK, key_i, key_s, kI_eq, kS_eq, oneR_1, walkE_l, walkE_t, walkE_s, ty_t, twoR_2, side_l, side_t, m_app, m_ext, m_rev, sline, startC, restE, restC, wipeE, wipeC, plainC, List.getElem?_cons_zero, List.getElem?_cons_succ, List.getD_cons_zero, List.getD_cons_succ, List.set_cons_zero, List.set_cons_succ, List.length_cons, List.length_nil, List.map_cons, List.map_nil, List.replicate_succ, List.replicate_zero, List.cons_append, List.nil_append, Nat.reduceAdd, Nat.reduceMul, Int.reduceAdd, Int.reduceSub, Int.reduceMul, Nat.reduceSub, Nat.reduceLT, Nat.reduceLeDiff, Nat.lt_add_one, Int.reduceNeg, Int.reduceLT, Int.reduceLE, Int.reduceToNat, Int.reducePow, Nat.reducePow, List.flatten_cons, List.flatten_nil, List.append_nil, true_and, and_true, true_or, or_true, eq_self, and_self, decide_true, decide_false, Bool.not_true, Bool.not_false, Bool.not_not, Option.isSome_some, Bool.and_true, Bool.true_and, Bool.and_self, reduceIte, ↓reduceIte, Bool.false_eq_true, ite_self, reduceCtorEq, ne_eq, not_false_eq_true, forall_const, ↓x_gtup, ↓a_repr, ↓x_min1, ↓a_min2S, ↓x_yes, ↓x_ite, x_gnil, walk_l, walk_t, walk_s, cut_inner]
        exact hN _ ⟨inner_W hv, by rw [← hc, cyc_in h1 ha hb e]⟩ (by simp; omega)
      · refine br_neg (decide_eq_false (by simpa using e)) ?_
        simp -dsimp only [↓opt_some, ↓br_true, ↓br_false, ↓nameC_d, ↓nameC_own, ↓nameC_dK, ↓nameC_dT, ↓x_name, ↓fzC_d, ↓fzC_own, ↓x_fzn, ↓x_fzd, ↓x_fzo, ↓x_rvn, ↓x_rvd, ↓x_rvo, ↓retC_d, ↓retC_own, ↓x_retn, ↓x_retd, ↓x_reto, ↓x_hd, ↓x_ho, ↓x_hn, ↓x_ad, ↓x_ao, ↓x_an, ↓x_set, ↓x_seq, ↓x_next, ↓x_break, ↓x_cont, ↓x_drop, ↓x_ret, ↓x_retN, ↓x_if, ↓x_asg, ↓x_asgG, ↓x_while, ↓x_for, ↓x_2, ↓x_1, ↓x_D, ↓bC_b, ↓x_B, ↓x_and, ↓x_or, ↓x_not, ↓x_andV, ↓x_orV, ↓x_notV, ↓x_tif, ↓x_nil, ↓x_cons, ↓x_tup, ↓x_lst, ↓x_rnil, ↓x_rcons, ↓x_callP, ↓x_rvLc, ↓x_rvLn, ↓x_meth, ↓x_meth0, ↓x_mut, ↓x_mg, ↓x_ms, ↓x_sl, ↓x_on, ↓iC_i, ↓x_os, ↓x_lc, ↓x_any, ↓x_pure, ↓sC_s, ↓x_rev, ↓x_call, ↓x_gn, ↓x_gnil, ↓x_gcons, ↓x_isi, ↓a_ii, ↓a_ss, ↓a_ll, ↓a_tt, ↓a_I, ↓a_neg, ↓a_mul, ↓a_mulL, ↓a_mulS, ↓a_eq, ↓a_ne, ↓a_lt, ↓a_le, ↓a_gt, ↓a_ge, ↓a_ltS, ↓a_leS, ↓a_inS, ↓a_ninS, ↓a_inL, ↓a_ninL, ↓a_inT, ↓a_ninT, ↓a_ixL, ↓a_ixT, ↓a_ixS, ↓a_ixR, ↓a_ixB, ↓a_slL, ↓a_slT, ↓a_slS, ↓a_lenS, ↓a_lenL, ↓a_lenT, ↓a_lenR, ↓a_join, ↓a_ixof, ↓a_ixofL, ↓a_rng1, ↓a_rng2, ↓a_min2, ↓a_max2, ↓a_lstS, ↓a_lstL, ↓a_lstT, ↓a_int, ↓a_intB, ↓a_isN, ↓x_popAt, ↓x_all, ↓x_anyB, ↓a_isB, ↓a_pop, ↓x_dict0, ↓x_aK, ↓x_kg, ↓x_ks, ↓x_dg, ↓x_di, ↓x_dpt, ↓x_enum, ↓a_backL, ↓a_backT, ↓x_never, ↓a_tupL, ↓a_tupT, ↓x_sort, ↓x_sortS, ↓x_sortP, ↓a_slR, ↓x_zip, ↓x_sum, ↓a_count, ↓augC_i, ↓x_aug, rvC_d, rvC_own, consO_s, isTy_s, isTy_l, mgC_own, walk_l, walk_t, walk_s, toR_d, toR_o, items_l, items_t, ok_s, ok_i, ok_b, ok_n, ok_l, ok_t, okL_n, okL_c, e_ss, e_ii, e_bb, e_ll, e_tt, eL_nn, eL_cc, eL_nc, eL_cn, ty_s, ty_i, ty_l, ty_b, kgC_dK, key_i, key_s, kI_eq, kS_eq, oneR_1, walkE_l, walkE_t, walkE_s, ty_t, twoR_2, side_l, side_t, m_app, m_ext, m_rev, sline, startC, restE, restC, wipeE, wipeC, plainC, List.getElem?_cons_zero, List.getElem?_cons_succ, List.getD_cons_zero, List.getD_cons_succ, List.set_cons_zero, List.set_cons_succ, List.length_cons, List.length_nil, List.map_cons, List.map_nil, List.replicate_succ, List.replicate_zero, List.cons_append, List.nil_append, Nat.reduceAdd, Nat.reduceMul, Int.reduceAdd, Int.reduceSub, Int.reduceMul, Nat.reduceSub, Nat.reduceLT, Nat.reduceLeDiff, Nat.lt_add_one, Int.reduceNeg, Int.reduceLT, Int.reduceLE, Int.reduceToNat, Int.reducePow, Nat.reducePow, List.flatten_cons, List.flatten_nil, List.append_nil, true_and, and_true, true_or, or_true, eq_self, and_self, decide_true, decide_false, Bool.not_true, Bool.not_false, Bool.not_not, Option.isSome_some, Bool.and_true, Bool.true_and, Bool.and_self, reduceIte, ↓reduceIte, Bool.false_eq_true, ite_self, reduceCtorEq, ne_eq, not_false_eq_true, forall_const, ↓x_gtup, ↓a_repr, ↓x_min1, ↓a_min2S, ↓x_yes, ↓x_ite, x_gnil, walk_l, walk_t, walk_s]
        rw [← hc, cyc_out ha hb e] at q
        exact q
    · refine br_neg (decide_eq_false (by omega)) ?_
      simp -dsimp only [↓opt_some, ↓br_true, ↓br_false, ↓nameC_d, ↓nameC_own, ↓nameC_dK, ↓nameC_dT, ↓x_name, ↓fzC_d, ↓fzC_own, ↓x_fzn, ↓x_fzd, ↓x_fzo, ↓x_rvn, ↓x_rvd, ↓x_rvo, ↓retC_d, ↓retC_own, ↓x_retn, ↓x_retd, ↓x_reto, ↓x_hd, ↓x_ho, ↓x_hn, ↓x_ad, ↓x_ao, ↓x_an, ↓x_set, ↓x_seq, ↓x_next, ↓x_break, ↓x_cont, ↓x_drop, ↓x_ret, ↓x_retN, ↓x_if, ↓x_asg, ↓x_asgG, ↓x_while, ↓x_for, ↓x_2, ↓x_1, ↓x_D, ↓bC_b, ↓x_B, ↓x_and, ↓x_or, ↓x_not, ↓x_andV, ↓x_orV, ↓x_notV, ↓x_tif, ↓x_nil, ↓x_cons, ↓x_tup, ↓x_lst, ↓x_rnil, ↓x_rcons, ↓x_callP, ↓x_rvLc, ↓x_rvLn, ↓x_meth, ↓x_meth0, ↓x_mut, ↓x_mg, ↓x_ms, ↓x_sl, ↓x_on, ↓iC_i, ↓x_os, ↓x_lc, ↓x_any, ↓x_pure, ↓sC_s, ↓x_rev, ↓x_call, ↓x_gn, ↓x_gnil, ↓x_gcons, ↓x_isi, ↓a_ii, ↓a_ss, ↓a_ll, ↓a_tt, ↓a_I, ↓a_neg, ↓a_mul, ↓a_mulL, ↓a_mulS, ↓a_eq, ↓a_ne, ↓a_lt, ↓a_le, ↓a_gt, ↓a_ge, ↓a_ltS, ↓a_leS, ↓a_inS, ↓a_ninS, ↓a_inL, ↓a_ninL, ↓a_inT, ↓a_ninT, ↓a_ixL, ↓a_ixT, ↓a_ixS, ↓a_ixR, ↓a_ixB, ↓a_slL, ↓a_slT, ↓a_slS, ↓a_lenS, ↓a_lenL, ↓a_lenT, ↓a_lenR, ↓a_join, ↓a_ixof, ↓a_ixofL, ↓a_rng1, ↓a_rng2, ↓a_min2, ↓a_max2, ↓a_lstS, ↓a_lstL, ↓a_lstT, ↓a_int, ↓a_intB, ↓a_isN, ↓x_popAt, ↓x_all, ↓x_anyB, ↓a_isB, ↓a_pop, ↓x_dict0, ↓x_aK, ↓x_kg, ↓x_ks, ↓x_dg, ↓x_di, ↓x_dpt, ↓x_enum, ↓a_backL, ↓a_backT, ↓x_never, ↓a_tupL, ↓a_tupT, ↓x_sort, ↓x_sortS, ↓x_sortP, ↓a_slR, ↓x_zip, ↓x_sum, ↓a_count, ↓augC_i, ↓x_aug, rvC_d, rvC_own, consO_s, isTy_s, isTy_l, mgC_own, walk_l, walk_t, walk_s, toR_d, toR_o, items_l, items_t, ok_s, ok_i, ok_b, ok_n, ok_l, ok_t, okL_n, okL_c, e_ss, e_ii, e_bb, e_ll, e_tt, eL_nn, eL_cc, eL_nc, eL_cn, ty_s, ty_i, ty_l, ty_b, kgC_dK, key_i, key_s, kI_eq, kS_eq, oneR_1, walkE_l, walkE_t, walkE_s, ty_t, twoR_2, side_l, side_t, m_app, m_ext, m_rev, sline, startC, restE, restC, wipeE, wipeC, plainC, List.getElem?_cons_zero, List.getElem?_cons_succ, List.getD_cons_zero, List.getD_cons_succ, List.set_cons_zero, List.set_cons_succ, List.length_cons, List.length_nil, List.map_cons, List.map_nil, List.replicate_succ, List.replicate_zero, List.cons_append, List.nil_append, Nat.reduceAdd, Nat.reduceMul, Int.reduceAdd, Int.reduceSub, Int.reduceMul, Nat.reduceSub, Nat.reduceLT, Nat.reduceLeDiff, Nat.lt_add_one, Int.reduceNeg, Int.reduceLT, Int.reduceLE, Int.reduceToNat, Int.reducePow, Nat.reducePow, List.flatten_cons, List.flatten_nil, List.append_nil, true_and, and_true, true_or, or_true, eq_self, and_self, decide_true, decide_false, Bool.not_true, Bool.not_false, Bool.not_not, Option.isSome_some, Bool.and_true, Bool.true_and, Bool.and_self, reduceIte, ↓reduceIte, Bool.false_eq_true, ite_self, reduceCtorEq, ne_eq, not_false_eq_true, forall_const, ↓x_gtup, ↓a_repr, ↓x_min1, ↓a_min2S, ↓x_yes, ↓x_ite, x_gnil, walk_l, walk_t, walk_s]
      rw [← hc, cyc_one h1] at q
      exact q
  · exact h.elim
/-! ### letters drawn -/
def m_law_letters : PM := fun ds st Q => match ds with
  | [.box, .int _] => ∀ y : List Nat, y ≠ [] → IsW y → y.length ≤ 52 → Q (.d (.str y)) st
  | _ => False
theorem e_letters {k s Q} : m_law_letters [.box, .int k] s Q = ∀ y : List Nat, y ≠ [] → IsW y → y.length ≤ 52 → Q (.d (.str y)) s := rfl
def t_law_letters : PTS := sSeq (sIf (tB (t2 (tName 1) (tD (.int 3)) pEq)) (sRet (tD (.str SMCP))) (sNext)) (sRet (tCall0 m_law_yard (tCons (tName 0) (tCons (tD (.int 1)) (tCons (tD (.int 4)) (tNil))))))
abbrev N_law_letters : List Str := ["_law_box_here", "_law_wide"]
theorem len_law_letters (ds : List D) (s : Sto) (Q : C → Sto → Prop) (h : m_law_letters ds s Q) : ds.length = 2 := by
  unfold m_law_letters at h
  split at h
  · rfl
  · exact h.elim
theorem p_law_letters (ds : List D) (s : Sto) (Q : C → Sto → Prop) (h : m_law_letters ds s Q) : t_law_letters noX { nx := fun e => Q (.d .non) e.st, rt := fun c e => Q c e.st } ⟨startC N_law_letters ds, s⟩ := by
  unfold m_law_letters at h
  split at h
  · rename_i k
    unfold t_law_letters
    simp -dsimp only [↓opt_some, ↓br_true, ↓br_false, ↓nameC_d, ↓nameC_own, ↓nameC_dK, ↓nameC_dT, ↓x_name, ↓fzC_d, ↓fzC_own, ↓x_fzn, ↓x_fzd, ↓x_fzo, ↓x_rvn, ↓x_rvd, ↓x_rvo, ↓retC_d, ↓retC_own, ↓x_retn, ↓x_retd, ↓x_reto, ↓x_hd, ↓x_ho, ↓x_hn, ↓x_ad, ↓x_ao, ↓x_an, ↓x_set, ↓x_seq, ↓x_next, ↓x_break, ↓x_cont, ↓x_drop, ↓x_ret, ↓x_retN, ↓x_if, ↓x_asg, ↓x_asgG, ↓x_while, ↓x_for, ↓x_2, ↓x_1, ↓x_D, ↓bC_b, ↓x_B, ↓x_and, ↓x_or, ↓x_not, ↓x_andV, ↓x_orV, ↓x_notV, ↓x_tif, ↓x_nil, ↓x_cons, ↓x_tup, ↓x_lst, ↓x_rnil, ↓x_rcons, ↓x_callP, ↓x_rvLc, ↓x_rvLn, ↓x_meth, ↓x_meth0, ↓x_mut, ↓x_mg, ↓x_ms, ↓x_sl, ↓x_on, ↓iC_i, ↓x_os, ↓x_lc, ↓x_any, ↓x_pure, ↓sC_s, ↓x_rev, ↓x_call, ↓x_gn, ↓x_gnil, ↓x_gcons, ↓x_isi, ↓a_ii, ↓a_ss, ↓a_ll, ↓a_tt, ↓a_I, ↓a_neg, ↓a_mul, ↓a_mulL, ↓a_mulS, ↓a_eq, ↓a_ne, ↓a_lt, ↓a_le, ↓a_gt, ↓a_ge, ↓a_ltS, ↓a_leS, ↓a_inS, ↓a_ninS, ↓a_inL, ↓a_ninL, ↓a_inT, ↓a_ninT, ↓a_ixL, ↓a_ixT, ↓a_ixS, ↓a_ixR, ↓a_ixB, ↓a_slL, ↓a_slT, ↓a_slS, ↓a_lenS, ↓a_lenL, ↓a_lenT, ↓a_lenR, ↓a_join, ↓a_ixof, ↓a_ixofL, ↓a_rng1, ↓a_rng2, ↓a_min2, ↓a_max2, ↓a_lstS, ↓a_lstL, ↓a_lstT, ↓a_int, ↓a_intB, ↓a_isN, ↓x_popAt, ↓x_all, ↓x_anyB, ↓a_isB, ↓a_pop, ↓x_dict0, ↓x_aK, ↓x_kg, ↓x_ks, ↓x_dg, ↓x_di, ↓x_dpt, ↓x_enum, ↓a_backL, ↓a_backT, ↓x_never, ↓a_tupL, ↓a_tupT, ↓x_sort, ↓x_sortS, ↓x_sortP, ↓a_slR, ↓x_zip, ↓x_sum, ↓a_count, ↓augC_i, ↓x_aug, rvC_d, rvC_own, consO_s, isTy_s, isTy_l, mgC_own, walk_l, walk_t, walk_s, toR_d, toR_o, items_l, items_t, ok_s, ok_i, ok_b, ok_n, ok_l, ok_t, okL_n, okL_c, e_ss, e_ii, e_bb, e_ll, e_tt, eL_nn, eL_cc, eL_nc, eL_cn, ty_s, ty_i, ty_l, ty_b, kgC_dK, key_i, key_s, kI_eq, kS_eq, oneR_1, walkE_l, walkE_t, walkE_s, ty_t, twoR_2, side_l, side_t, m_app, m_ext, m_rev, sline, startC, restE, restC, wipeE, wipeC, plainC, List.getElem?_cons_zero, List.getElem?_cons_succ, List.getD_cons_zero, List.getD_cons_succ, List.set_cons_zero, List.set_cons_succ, List.length_cons, List.length_nil, List.map_cons, List.map_nil, List.replicate_succ, List.replicate_zero, List.cons_append, List.nil_append, Nat.reduceAdd, Nat.reduceMul, Int.reduceAdd, Int.reduceSub, Int.reduceMul, Nat.reduceSub, Nat.reduceLT, Nat.reduceLeDiff, Nat.lt_add_one, Int.reduceNeg, Int.reduceLT, Int.reduceLE, Int.reduceToNat, Int.reducePow, Nat.reducePow, List.flatten_cons, List.flatten_nil, List.append_nil, true_and, and_true, true_or, or_true, eq_self, and_self, decide_true, decide_false, Bool.not_true, Bool.not_false, Bool.not_not, Option.isSome_some, Bool.and_true, Bool.true_and, Bool.and_self, reduceIte, ↓reduceIte, Bool.false_eq_true, ite_self, reduceCtorEq, ne_eq, not_false_eq_true, forall_const, ↓x_gtup, ↓a_repr, ↓x_min1, ↓a_min2S, ↓x_yes, ↓x_ite, x_gnil, walk_l, walk_t, walk_s, e_yard]
    refine br_intro (fun _ => ?_) fun _ => ?_
    · exact h SMCP (by decide) (fun c => SMCP_L) (by decide)
    · simp -dsimp only [↓opt_some, ↓br_true, ↓br_false, ↓nameC_d, ↓nameC_own, ↓nameC_dK, ↓nameC_dT, ↓x_name, ↓fzC_d, ↓fzC_own, ↓x_fzn, ↓x_fzd, ↓x_fzo, ↓x_rvn, ↓x_rvd, ↓x_rvo, ↓retC_d, ↓retC_own, ↓x_retn, ↓x_retd, ↓x_reto, ↓x_hd, ↓x_ho, ↓x_hn, ↓x_ad, ↓x_ao, ↓x_an, ↓x_set, ↓x_seq, ↓x_next, ↓x_break, ↓x_cont, ↓x_drop, ↓x_ret, ↓x_retN, ↓x_if, ↓x_asg, ↓x_asgG, ↓x_while, ↓x_for, ↓x_2, ↓x_1, ↓x_D, ↓bC_b, ↓x_B, ↓x_and, ↓x_or, ↓x_not, ↓x_andV, ↓x_orV, ↓x_notV, ↓x_tif, ↓x_nil, ↓x_cons, ↓x_tup, ↓x_lst, ↓x_rnil, ↓x_rcons, ↓x_callP, ↓x_rvLc, ↓x_rvLn, ↓x_meth, ↓x_meth0, ↓x_mut, ↓x_mg, ↓x_ms, ↓x_sl, ↓x_on, ↓iC_i, ↓x_os, ↓x_lc, ↓x_any, ↓x_pure, ↓sC_s, ↓x_rev, ↓x_call, ↓x_gn, ↓x_gnil, ↓x_gcons, ↓x_isi, ↓a_ii, ↓a_ss, ↓a_ll, ↓a_tt, ↓a_I, ↓a_neg, ↓a_mul, ↓a_mulL, ↓a_mulS, ↓a_eq, ↓a_ne, ↓a_lt, ↓a_le, ↓a_gt, ↓a_ge, ↓a_ltS, ↓a_leS, ↓a_inS, ↓a_ninS, ↓a_inL, ↓a_ninL, ↓a_inT, ↓a_ninT, ↓a_ixL, ↓a_ixT, ↓a_ixS, ↓a_ixR, ↓a_ixB, ↓a_slL, ↓a_slT, ↓a_slS, ↓a_lenS, ↓a_lenL, ↓a_lenT, ↓a_lenR, ↓a_join, ↓a_ixof, ↓a_ixofL, ↓a_rng1, ↓a_rng2, ↓a_min2, ↓a_max2, ↓a_lstS, ↓a_lstL, ↓a_lstT, ↓a_int, ↓a_intB, ↓a_isN, ↓x_popAt, ↓x_all, ↓x_anyB, ↓a_isB, ↓a_pop, ↓x_dict0, ↓x_aK, ↓x_kg, ↓x_ks, ↓x_dg, ↓x_di, ↓x_dpt, ↓x_enum, ↓a_backL, ↓a_backT, ↓x_never, ↓a_tupL, ↓a_tupT, ↓x_sort, ↓x_sortS, ↓x_sortP, ↓a_slR, ↓x_zip, ↓x_sum, ↓a_count, ↓augC_i, ↓x_aug, rvC_d, rvC_own, consO_s, isTy_s, isTy_l, mgC_own, walk_l, walk_t, walk_s, toR_d, toR_o, items_l, items_t, ok_s, ok_i, ok_b, ok_n, ok_l, ok_t, okL_n, okL_c, e_ss, e_ii, e_bb, e_ll, e_tt, eL_nn, eL_cc, eL_nc, eL_cn, ty_s, ty_i, ty_l, ty_b, kgC_dK, key_i, key_s, kI_eq, kS_eq, oneR_1, walkE_l, walkE_t, walkE_s, ty_t, twoR_2, side_l, side_t, m_app, m_ext, m_rev, sline, startC, restE, restC, wipeE, wipeC, plainC, List.getElem?_cons_zero, List.getElem?_cons_succ, List.getD_cons_zero, List.getD_cons_succ, List.set_cons_zero, List.set_cons_succ, List.length_cons, List.length_nil, List.map_cons, List.map_nil, List.replicate_succ, List.replicate_zero, List.cons_append, List.nil_append, Nat.reduceAdd, Nat.reduceMul, Int.reduceAdd, Int.reduceSub, Int.reduceMul, Nat.reduceSub, Nat.reduceLT, Nat.reduceLeDiff, Nat.lt_add_one, Int.reduceNeg, Int.reduceLT, Int.reduceLE, Int.reduceToNat, Int.reducePow, Nat.reducePow, List.flatten_cons, List.flatten_nil, List.append_nil, true_and, and_true, true_or, or_true, eq_self, and_self, decide_true, decide_false, Bool.not_true, Bool.not_false, Bool.not_not, Option.isSome_some, Bool.and_true, Bool.true_and, Bool.and_self, reduceIte, ↓reduceIte, Bool.false_eq_true, ite_self, reduceCtorEq, ne_eq, not_false_eq_true, forall_const, ↓x_gtup, ↓a_repr, ↓x_min1, ↓a_min2S, ↓x_yes, ↓x_ite, x_gnil, walk_l, walk_t, walk_s, e_yard]
      exact fun y hy h1 h2 => h y (fun z => by subst z; simp at h1) hy.let_ (by omega)
  · exact h.elim
end Pu
set_option maxRecDepth 100000
set_option maxHeartbeats 2000000
namespace Pu
open PySem L2
abbrev flds1 : Nat → List Str
  | 0 => ["at"]
  | 1 => ["at"]
  | 2 => ["word", "at"]
  | 3 => ["row"]
  | 4 => ["at"]
  | 5 => ["word"]
  | 6 => ["name"]
  | 7 => ["name"]
  | 8 => ["name"]
  | _ => []
/-- the thirteen -/
def eL (n : Int) (w : List Nat) : List D := [.exc 0 ["at"] [.int n], .exc 1 ["at"] [.int n], .exc 2 ["word", "at"] [.str w, .int n], .exc 3 ["row"] [.int n], .exc 4 ["at"] [.int n], .exc 5 ["word"] [.str w], .exc 6 ["name"] [.str w], .exc 7 ["name"] [.str w], .exc 8 ["name"] [.str w], .exc 9 [] [], .exc 10 [] [], .exc 11 [] [], .exc 12 [] []]
def m_law_made : PM := fun ds st Q => match ds with
  | [.int n, .str w] => Q (.own (eL n w)) st
  | _ => False
theorem e_made {n w s Q} : m_law_made [.int n, .str w] s Q = Q (.own (eL n w)) s := rfl
def t_law_made : PTS := sSeq (sAsg 2 (tLst (tCons (tMkX 0 ["at"] (tCons (tName 0) (tNil))) (tCons (tMkX 1 ["at"] (tCons (tName 0) (tNil))) (tCons (tMkX 2 ["word", "at"] (tCons (tName 1) (tCons (tName 0) (tNil)))) (tCons (tMkX 3 ["row"] (tCons (tName 0) (tNil))) (tCons (tMkX 4 ["at"] (tCons (tName 0) (tNil))) (tCons (tMkX 5 ["word"] (tCons (tName 1) (tNil))) (tNil))))))))) (sSeq (sAsg 2 (t2 (tName 2) (tLst (tCons (tMkX 6 ["name"] (tCons (tName 1) (tNil))) (tCons (tMkX 7 ["name"] (tCons (tName 1) (tNil))) (tCons (tMkX 8 ["name"] (tCons (tName 1) (tNil))) (tCons (tMk0 9) (tCons (tMk0 10) (tCons (tMk0 11) (tCons (tMk0 12) (tNil))))))))) pAdd)) (sRet (tName 2)))
abbrev N_law_made : List Str := ["_law_number", "_law_word", "_law_found"]
theorem len_law_made (ds : List D) (s : Sto) (Q : C → Sto → Prop) (h : m_law_made ds s Q) : ds.length = 2 := by
  unfold m_law_made at h
  split at h
  · rfl
  · exact h.elim
theorem p_law_made (ds : List D) (s : Sto) (Q : C → Sto → Prop) (h : m_law_made ds s Q) : t_law_made noX { nx := fun e => Q (.d .non) e.st, rt := fun c e => Q c e.st } ⟨startC N_law_made ds, s⟩ := by
  unfold m_law_made at h
  split at h
  · rename_i n w
    unfold t_law_made
    simp -dsimp only [↓opt_some, ↓br_true, ↓br_false, ↓nameC_d, ↓nameC_own, ↓nameC_dK, ↓nameC_dT, ↓x_name, ↓fzC_d, ↓fzC_own, ↓x_fzn, ↓x_fzd, ↓x_fzo, ↓x_rvn, ↓x_rvd, ↓x_rvo, ↓retC_d, ↓retC_own, ↓x_retn, ↓x_retd, ↓x_reto, ↓x_hd, ↓x_ho, ↓x_hn, ↓x_ad, ↓x_ao, ↓x_an, ↓x_set, ↓x_seq, ↓x_next, ↓x_break, ↓x_cont, ↓x_drop, ↓x_ret, ↓x_retN, ↓x_if, ↓x_asg, ↓x_asgG, ↓x_while, ↓x_for, ↓x_2, ↓x_1, ↓x_D, ↓bC_b, ↓x_B, ↓x_and, ↓x_or, ↓x_not, ↓x_andV, ↓x_orV, ↓x_notV, ↓x_tif, ↓x_nil, ↓x_cons, ↓x_tup, ↓x_lst, ↓x_rnil, ↓x_rcons, ↓x_callP, ↓x_rvLc, ↓x_rvLn, ↓x_meth, ↓x_meth0, ↓x_mut, ↓x_mg, ↓x_ms, ↓x_sl, ↓x_on, ↓iC_i, ↓x_os, ↓x_lc, ↓x_any, ↓x_pure, ↓sC_s, ↓x_rev, ↓x_call, ↓x_gn, ↓x_gnil, ↓x_gcons, ↓x_isi, ↓a_ii, ↓a_ss, ↓a_ll, ↓a_tt, ↓a_I, ↓a_neg, ↓a_mul, ↓a_mulL, ↓a_mulS, ↓a_eq, ↓a_ne, ↓a_lt, ↓a_le, ↓a_gt, ↓a_ge, ↓a_ltS, ↓a_leS, ↓a_inS, ↓a_ninS, ↓a_inL, ↓a_ninL, ↓a_inT, ↓a_ninT, ↓a_ixL, ↓a_ixT, ↓a_ixS, ↓a_ixR, ↓a_ixB, ↓a_slL, ↓a_slT, ↓a_slS, ↓a_lenS, ↓a_lenL, ↓a_lenT, ↓a_lenR, ↓a_join, ↓a_ixof, ↓a_ixofL, ↓a_rng1, ↓a_rng2, ↓a_min2, ↓a_max2, ↓a_lstS, ↓a_lstL, ↓a_lstT, ↓a_int, ↓a_intB, ↓a_isN, ↓x_popAt, ↓x_all, ↓x_anyB, ↓a_isB, ↓a_pop, ↓x_dict0, ↓x_aK, ↓x_kg, ↓x_ks, ↓x_dg, ↓x_di, ↓x_dpt, ↓x_enum, ↓a_backL, ↓a_backT, ↓x_never, ↓a_tupL, ↓a_tupT, ↓x_sort, ↓x_sortS, ↓x_sortP, ↓a_slR, ↓x_zip, ↓x_sum, ↓a_count, ↓augC_i, ↓x_aug, ↓x_par, ↓x_raise, ↓x_callX, ↓x_try, ↓x_subA, ↓x_setN, ↓a_two, ↓x_swIx, ↓x_mkX, ↓x_mk0, ↓x_raise0, ↓a_exB, ↓a_tbl, ↓a_cbl, ↓x_isX, ↓x_xattr, rvC_d, rvC_own, consO_s, isTy_s, isTy_l, mgC_own, walk_l, walk_t, walk_s, toR_d, toR_o, items_l, items_t, ok_s, ok_i, ok_b, ok_n, ok_l, ok_t, okL_n, okL_c, e_ss, e_ii, e_bb, e_ll, e_tt, eL_nn, eL_cc, eL_nc, eL_cn, ty_s, ty_i, ty_l, ty_b, kgC_dK, key_i, key_s, kI_eq, kS_eq, oneR_1, walkE_l, walkE_t, walkE_s, ty_t, twoR_2, side_l, side_t, twoD_2, ow_nil, ow_un, ow_d, m_app, m_ext, m_rev, sline, startC, restE, restC, wipeE, wipeC, plainC, List.getElem?_cons_zero, List.getElem?_cons_succ, List.getD_cons_zero, List.getD_cons_succ, List.set_cons_zero, List.set_cons_succ, List.length_cons, List.length_nil, List.map_cons, List.map_nil, List.replicate_succ, List.replicate_zero, List.cons_append, List.nil_append, Nat.reduceAdd, Nat.reduceMul, Int.reduceAdd, Int.reduceSub, Int.reduceMul, Nat.reduceSub, Nat.reduceLT, Nat.reduceLeDiff, Nat.lt_add_one, Int.reduceNeg, Int.reduceLT, Int.reduceLE, Int.reduceToNat, Int.reducePow, Nat.reducePow, List.flatten_cons, List.flatten_nil, List.append_nil, true_and, and_true, true_or, or_true, eq_self, and_self, decide_true, decide_false, Bool.not_true, Bool.not_false, Bool.not_not, Option.isSome_some, Bool.and_true, Bool.true_and, Bool.and_self, reduceIte, ↓reduceIte, Bool.false_eq_true, ite_self, reduceCtorEq, ne_eq, not_false_eq_true, forall_const, ↓x_gtup, ↓a_repr, ↓x_min1, ↓a_min2S, ↓x_yes, ↓x_ite, x_gnil, walk_l, walk_t, walk_s]
    exact h
  · exact h.elim
/-- what a refusal of the class c is told to be -/
def kL (c : Nat) : List D := (List.range 13).map (fun i => .bl (decide (i = c))) ++ [.bl true, .bl true]
def m_law_kinds : PM := fun ds st Q => match ds with
  | [.exc c _ _] => c < 13 ∧ Q (.own (kL c)) st
  | _ => False
theorem e_kinds {c ns vs s Q} : m_law_kinds [.exc c ns vs] s Q = (c < 13 ∧ Q (.own (kL c)) s) := rfl
def t_law_kinds : PTS := sSeq (sAsg 1 (tLst (tCons (tIsX (tbl [true, false, false, false, false, false, false, false, false, false, false, false, false]) (tName 0)) (tCons (tIsX (tbl [false, true, false, false, false, false, false, false, false, false, false, false, false]) (tName 0)) (tCons (tIsX (tbl [false, false, true, false, false, false, false, false, false, false, false, false, false]) (tName 0)) (tCons (tIsX (tbl [false, false, false, true, false, false, false, false, false, false, false, false, false]) (tName 0)) (tNil))))))) (sSeq (sAsg 1 (t2 (tName 1) (tLst (tCons (tIsX (tbl [false, false, false, false, true, false, false, false, false, false, false, false, false]) (tName 0)) (tCons (tIsX (tbl [false, false, false, false, false, true, false, false, false, false, false, false, false]) (tName 0)) (tCons (tIsX (tbl [false, false, false, false, false, false, true, false, false, false, false, false, false]) (tName 0)) (tCons (tIsX (tbl [false, false, false, false, false, false, false, true, false, false, false, false, false]) (tName 0)) (tNil)))))) pAdd)) (sSeq (sAsg 1 (t2 (tName 1) (tLst (tCons (tIsX (tbl [false, false, false, false, false, false, false, false, true, false, false, false, false]) (tName 0)) (tCons (tIsX (tbl [false, false, false, false, false, false, false, false, false, true, false, false, false]) (tName 0)) (tCons (tIsX (tbl [false, false, false, false, false, false, false, false, false, false, true, false, false]) (tName 0)) (tCons (tIsX (tbl [false, false, false, false, false, false, false, false, false, false, false, true, false]) (tName 0)) (tNil)))))) pAdd)) (sRet (t2 (tName 1) (tLst (tCons (tIsX (tbl [false, false, false, false, false, false, false, false, false, false, false, false, true]) (tName 0)) (tCons (tIsX (tbl [true, true, true, true, true, true, true, true, true, true, true, true, true]) (tName 0)) (tCons (tIsX (tbl [true, true, true, true, true, true, true, true, true, true, true, true, true]) (tName 0)) (tNil))))) pAdd))))
abbrev N_law_kinds : List Str := ["_law_e", "_law_found"]
theorem len_law_kinds (ds : List D) (s : Sto) (Q : C → Sto → Prop) (h : m_law_kinds ds s Q) : ds.length = 1 := by
  unfold m_law_kinds at h
  split at h
  · rfl
  · exact h.elim
theorem p_law_kinds (ds : List D) (s : Sto) (Q : C → Sto → Prop) (h : m_law_kinds ds s Q) : t_law_kinds noX { nx := fun e => Q (.d .non) e.st, rt := fun c e => Q c e.st } ⟨startC N_law_kinds ds, s⟩ := by
  unfold m_law_kinds at h
  split at h
  · rename_i c ns vs
    obtain ⟨hc, q⟩ := h
    have cs : c = 0 ∨ c = 1 ∨ c = 2 ∨ c = 3 ∨ c = 4 ∨ c = 5 ∨ c = 6 ∨ c = 7 ∨ c = 8 ∨ c = 9 ∨ c = 10 ∨ c = 11 ∨ c = 12 := by omega
    rcases cs with rfl | rfl | rfl | rfl | rfl | rfl | rfl | rfl | rfl | rfl | rfl | rfl | rfl
    all_goals
      unfold t_law_kinds
      simp -dsimp only [↓opt_some, ↓br_true, ↓br_false, ↓nameC_d, ↓nameC_own, ↓nameC_dK, ↓nameC_dT, ↓x_name, ↓fzC_d, ↓fzC_own, ↓x_fzn, ↓x_fzd, ↓x_fzo, ↓x_rvn, ↓x_rvd, ↓x_rvo, ↓retC_d, ↓retC_own, ↓x_retn, ↓x_retd, ↓x_reto, ↓x_hd, ↓x_ho, ↓x_hn, ↓x_ad, ↓x_ao, ↓x_an, ↓x_set, ↓x_seq, ↓x_next, ↓x_break, ↓x_cont, ↓x_drop, ↓x_ret, ↓x_retN, ↓x_if, ↓x_asg, ↓x_asgG, ↓x_while, ↓x_for, ↓x_2, ↓x_1, ↓x_D, ↓bC_b, ↓x_B, ↓x_and, ↓x_or, ↓x_not, ↓x_andV, ↓x_orV, ↓x_notV, ↓x_tif, ↓x_nil, ↓x_cons, ↓x_tup, ↓x_lst, ↓x_rnil, ↓x_rcons, ↓x_callP, ↓x_rvLc, ↓x_rvLn, ↓x_meth, ↓x_meth0, ↓x_mut, ↓x_mg, ↓x_ms, ↓x_sl, ↓x_on, ↓iC_i, ↓x_os, ↓x_lc, ↓x_any, ↓x_pure, ↓sC_s, ↓x_rev, ↓x_call, ↓x_gn, ↓x_gnil, ↓x_gcons, ↓x_isi, ↓a_ii, ↓a_ss, ↓a_ll, ↓a_tt, ↓a_I, ↓a_neg, ↓a_mul, ↓a_mulL, ↓a_mulS, ↓a_eq, ↓a_ne, ↓a_lt, ↓a_le, ↓a_gt, ↓a_ge, ↓a_ltS, ↓a_leS, ↓a_inS, ↓a_ninS, ↓a_inL, ↓a_ninL, ↓a_inT, ↓a_ninT, ↓a_ixL, ↓a_ixT, ↓a_ixS, ↓a_ixR, ↓a_ixB, ↓a_slL, ↓a_slT, ↓a_slS, ↓a_lenS, ↓a_lenL, ↓a_lenT, ↓a_lenR, ↓a_join, ↓a_ixof, ↓a_ixofL, ↓a_rng1, ↓a_rng2, ↓a_min2, ↓a_max2, ↓a_lstS, ↓a_lstL, ↓a_lstT, ↓a_int, ↓a_intB, ↓a_isN, ↓x_popAt, ↓x_all, ↓x_anyB, ↓a_isB, ↓a_pop, ↓x_dict0, ↓x_aK, ↓x_kg, ↓x_ks, ↓x_dg, ↓x_di, ↓x_dpt, ↓x_enum, ↓a_backL, ↓a_backT, ↓x_never, ↓a_tupL, ↓a_tupT, ↓x_sort, ↓x_sortS, ↓x_sortP, ↓a_slR, ↓x_zip, ↓x_sum, ↓a_count, ↓augC_i, ↓x_aug, ↓x_par, ↓x_raise, ↓x_callX, ↓x_try, ↓x_subA, ↓x_setN, ↓a_two, ↓x_swIx, ↓x_mkX, ↓x_mk0, ↓x_raise0, ↓a_exB, ↓a_tbl, ↓a_cbl, ↓x_isX, ↓x_xattr, rvC_d, rvC_own, consO_s, isTy_s, isTy_l, mgC_own, walk_l, walk_t, walk_s, toR_d, toR_o, items_l, items_t, ok_s, ok_i, ok_b, ok_n, ok_l, ok_t, okL_n, okL_c, e_ss, e_ii, e_bb, e_ll, e_tt, eL_nn, eL_cc, eL_nc, eL_cn, ty_s, ty_i, ty_l, ty_b, kgC_dK, key_i, key_s, kI_eq, kS_eq, oneR_1, walkE_l, walkE_t, walkE_s, ty_t, twoR_2, side_l, side_t, twoD_2, ow_nil, ow_un, ow_d, m_app, m_ext, m_rev, sline, startC, restE, restC, wipeE, wipeC, plainC, List.getElem?_cons_zero, List.getElem?_cons_succ, List.getD_cons_zero, List.getD_cons_succ, List.set_cons_zero, List.set_cons_succ, List.length_cons, List.length_nil, List.map_cons, List.map_nil, List.replicate_succ, List.replicate_zero, List.cons_append, List.nil_append, Nat.reduceAdd, Nat.reduceMul, Int.reduceAdd, Int.reduceSub, Int.reduceMul, Nat.reduceSub, Nat.reduceLT, Nat.reduceLeDiff, Nat.lt_add_one, Int.reduceNeg, Int.reduceLT, Int.reduceLE, Int.reduceToNat, Int.reducePow, Nat.reducePow, List.flatten_cons, List.flatten_nil, List.append_nil, true_and, and_true, true_or, or_true, eq_self, and_self, decide_true, decide_false, Bool.not_true, Bool.not_false, Bool.not_not, Option.isSome_some, Bool.and_true, Bool.true_and, Bool.and_self, reduceIte, ↓reduceIte, Bool.false_eq_true, ite_self, reduceCtorEq, ne_eq, not_false_eq_true, forall_const, ↓x_gtup, ↓a_repr, ↓x_min1, ↓a_min2S, ↓x_yes, ↓x_ite, x_gnil, walk_l, walk_t, walk_s]
      exact q
  · exact h.elim
def cD (way n : Int) (w : List Nat) : D := if way = 0 then .exc 2 ["word", "at"] [.str w, .int n] else if way = 1 then .exc 8 ["name"] [.str w] else .exc 11 [] []
def m_law_caught : PM := fun ds st Q => match ds with
  | [.int way, .int n, .str w] => Q (.d (cD way n w)) st
  | _ => False
theorem e_caught {way n w s Q} : m_law_caught [.int way, .int n, .str w] s Q = Q (.d (cD way n w)) s := rfl
def t_law_caught : PTS := sSeq (sAsg 3 (tD .non)) (sSeq (sTry 5 4 flds1 (cbl 13) (sSeq (sIf (tB (t2 (tName 0) (tD (.int 0)) pEq)) (sRaise 2 2 (tCons (tName 2) (tCons (tName 1) (tNil)))) (sNext)) (sSeq (sIf (tB (t2 (tName 0) (tD (.int 1)) pEq)) (sRaise 8 1 (tCons (tName 2) (tNil))) (sNext)) (sRaise0 11))) (sAsg 3 (tName 4))) (sRet (tName 3)))
abbrev N_law_caught : List Str := ["_law_way", "_law_number", "_law_word", "_law_found", "_law_e"]
theorem len_law_caught (ds : List D) (s : Sto) (Q : C → Sto → Prop) (h : m_law_caught ds s Q) : ds.length = 3 := by
  unfold m_law_caught at h
  split at h
  · rfl
  · exact h.elim
theorem p_law_caught (ds : List D) (s : Sto) (Q : C → Sto → Prop) (h : m_law_caught ds s Q) : t_law_caught noX { nx := fun e => Q (.d .non) e.st, rt := fun c e => Q c e.st } ⟨startC N_law_caught ds, s⟩ := by
  unfold m_law_caught at h
  split at h
  · rename_i way n w
    have q := h
    clear h
    unfold t_law_caught
    simp -dsimp only [↓opt_some, ↓br_true, ↓br_false, ↓nameC_d, ↓nameC_own, ↓nameC_dK, ↓nameC_dT, ↓x_name, ↓fzC_d, ↓fzC_own, ↓x_fzn, ↓x_fzd, ↓x_fzo, ↓x_rvn, ↓x_rvd, ↓x_rvo, ↓retC_d, ↓retC_own, ↓x_retn, ↓x_retd, ↓x_reto, ↓x_hd, ↓x_ho, ↓x_hn, ↓x_ad, ↓x_ao, ↓x_an, ↓x_set, ↓x_seq, ↓x_next, ↓x_break, ↓x_cont, ↓x_drop, ↓x_ret, ↓x_retN, ↓x_if, ↓x_asg, ↓x_asgG, ↓x_while, ↓x_for, ↓x_2, ↓x_1, ↓x_D, ↓bC_b, ↓x_B, ↓x_and, ↓x_or, ↓x_not, ↓x_andV, ↓x_orV, ↓x_notV, ↓x_tif, ↓x_nil, ↓x_cons, ↓x_tup, ↓x_lst, ↓x_rnil, ↓x_rcons, ↓x_callP, ↓x_rvLc, ↓x_rvLn, ↓x_meth, ↓x_meth0, ↓x_mut, ↓x_mg, ↓x_ms, ↓x_sl, ↓x_on, ↓iC_i, ↓x_os, ↓x_lc, ↓x_any, ↓x_pure, ↓sC_s, ↓x_rev, ↓x_call, ↓x_gn, ↓x_gnil, ↓x_gcons, ↓x_isi, ↓a_ii, ↓a_ss, ↓a_ll, ↓a_tt, ↓a_I, ↓a_neg, ↓a_mul, ↓a_mulL, ↓a_mulS, ↓a_eq, ↓a_ne, ↓a_lt, ↓a_le, ↓a_gt, ↓a_ge, ↓a_ltS, ↓a_leS, ↓a_inS, ↓a_ninS, ↓a_inL, ↓a_ninL, ↓a_inT, ↓a_ninT, ↓a_ixL, ↓a_ixT, ↓a_ixS, ↓a_ixR, ↓a_ixB, ↓a_slL, ↓a_slT, ↓a_slS, ↓a_lenS, ↓a_lenL, ↓a_lenT, ↓a_lenR, ↓a_join, ↓a_ixof, ↓a_ixofL, ↓a_rng1, ↓a_rng2, ↓a_min2, ↓a_max2, ↓a_lstS, ↓a_lstL, ↓a_lstT, ↓a_int, ↓a_intB, ↓a_isN, ↓x_popAt, ↓x_all, ↓x_anyB, ↓a_isB, ↓a_pop, ↓x_dict0, ↓x_aK, ↓x_kg, ↓x_ks, ↓x_dg, ↓x_di, ↓x_dpt, ↓x_enum, ↓a_backL, ↓a_backT, ↓x_never, ↓a_tupL, ↓a_tupT, ↓x_sort, ↓x_sortS, ↓x_sortP, ↓a_slR, ↓x_zip, ↓x_sum, ↓a_count, ↓augC_i, ↓x_aug, ↓x_par, ↓x_raise, ↓x_callX, ↓x_try, ↓x_subA, ↓x_setN, ↓a_two, ↓x_swIx, ↓x_mkX, ↓x_mk0, ↓x_raise0, ↓a_exB, ↓a_tbl, ↓a_cbl, ↓x_isX, ↓x_xattr, rvC_d, rvC_own, consO_s, isTy_s, isTy_l, mgC_own, walk_l, walk_t, walk_s, toR_d, toR_o, items_l, items_t, ok_s, ok_i, ok_b, ok_n, ok_l, ok_t, okL_n, okL_c, e_ss, e_ii, e_bb, e_ll, e_tt, eL_nn, eL_cc, eL_nc, eL_cn, ty_s, ty_i, ty_l, ty_b, kgC_dK, key_i, key_s, kI_eq, kS_eq, oneR_1, walkE_l, walkE_t, walkE_s, ty_t, twoR_2, side_l, side_t, twoD_2, ow_nil, ow_un, ow_d, m_app, m_ext, m_rev, sline, startC, restE, restC, wipeE, wipeC, plainC, List.getElem?_cons_zero, List.getElem?_cons_succ, List.getD_cons_zero, List.getD_cons_succ, List.set_cons_zero, List.set_cons_succ, List.length_cons, List.length_nil, List.map_cons, List.map_nil, List.replicate_succ, List.replicate_zero, List.cons_append, List.nil_append, Nat.reduceAdd, Nat.reduceMul, Int.reduceAdd, Int.reduceSub, Int.reduceMul, Nat.reduceSub, Nat.reduceLT, Nat.reduceLeDiff, Nat.lt_add_one, Int.reduceNeg, Int.reduceLT, Int.reduceLE, Int.reduceToNat, Int.reducePow, Nat.reducePow, List.flatten_cons, List.flatten_nil, List.append_nil, true_and, and_true, true_or, or_true, eq_self, and_self, decide_true, decide_false, Bool.not_true, Bool.not_false, Bool.not_not, Option.isSome_some, Bool.and_true, Bool.true_and, Bool.and_self, reduceIte, ↓reduceIte, Bool.false_eq_true, ite_self, reduceCtorEq, ne_eq, not_false_eq_true, forall_const, ↓x_gtup, ↓a_repr, ↓x_min1, ↓a_min2S, ↓x_yes, ↓x_ite, x_gnil, walk_l, walk_t, walk_s]
    refine br_intro (fun h => ?_) (fun h => ?_)
    · have hw : way = 0 := of_decide_eq_true h
      have e : cD way n w = .exc 2 ["word", "at"] [.str w, .int n] := if_pos hw
      rw [e] at q
      simp -dsimp only [↓opt_some, ↓br_true, ↓br_false, ↓nameC_d, ↓nameC_own, ↓nameC_dK, ↓nameC_dT, ↓x_name, ↓fzC_d, ↓fzC_own, ↓x_fzn, ↓x_fzd, ↓x_fzo, ↓x_rvn, ↓x_rvd, ↓x_rvo, ↓retC_d, ↓retC_own, ↓x_retn, ↓x_retd, ↓x_reto, ↓x_hd, ↓x_ho, ↓x_hn, ↓x_ad, ↓x_ao, ↓x_an, ↓x_set, ↓x_seq, ↓x_next, ↓x_break, ↓x_cont, ↓x_drop, ↓x_ret, ↓x_retN, ↓x_if, ↓x_asg, ↓x_asgG, ↓x_while, ↓x_for, ↓x_2, ↓x_1, ↓x_D, ↓bC_b, ↓x_B, ↓x_and, ↓x_or, ↓x_not, ↓x_andV, ↓x_orV, ↓x_notV, ↓x_tif, ↓x_nil, ↓x_cons, ↓x_tup, ↓x_lst, ↓x_rnil, ↓x_rcons, ↓x_callP, ↓x_rvLc, ↓x_rvLn, ↓x_meth, ↓x_meth0, ↓x_mut, ↓x_mg, ↓x_ms, ↓x_sl, ↓x_on, ↓iC_i, ↓x_os, ↓x_lc, ↓x_any, ↓x_pure, ↓sC_s, ↓x_rev, ↓x_call, ↓x_gn, ↓x_gnil, ↓x_gcons, ↓x_isi, ↓a_ii, ↓a_ss, ↓a_ll, ↓a_tt, ↓a_I, ↓a_neg, ↓a_mul, ↓a_mulL, ↓a_mulS, ↓a_eq, ↓a_ne, ↓a_lt, ↓a_le, ↓a_gt, ↓a_ge, ↓a_ltS, ↓a_leS, ↓a_inS, ↓a_ninS, ↓a_inL, ↓a_ninL, ↓a_inT, ↓a_ninT, ↓a_ixL, ↓a_ixT, ↓a_ixS, ↓a_ixR, ↓a_ixB, ↓a_slL, ↓a_slT, ↓a_slS, ↓a_lenS, ↓a_lenL, ↓a_lenT, ↓a_lenR, ↓a_join, ↓a_ixof, ↓a_ixofL, ↓a_rng1, ↓a_rng2, ↓a_min2, ↓a_max2, ↓a_lstS, ↓a_lstL, ↓a_lstT, ↓a_int, ↓a_intB, ↓a_isN, ↓x_popAt, ↓x_all, ↓x_anyB, ↓a_isB, ↓a_pop, ↓x_dict0, ↓x_aK, ↓x_kg, ↓x_ks, ↓x_dg, ↓x_di, ↓x_dpt, ↓x_enum, ↓a_backL, ↓a_backT, ↓x_never, ↓a_tupL, ↓a_tupT, ↓x_sort, ↓x_sortS, ↓x_sortP, ↓a_slR, ↓x_zip, ↓x_sum, ↓a_count, ↓augC_i, ↓x_aug, ↓x_par, ↓x_raise, ↓x_callX, ↓x_try, ↓x_subA, ↓x_setN, ↓a_two, ↓x_swIx, ↓x_mkX, ↓x_mk0, ↓x_raise0, ↓a_exB, ↓a_tbl, ↓a_cbl, ↓x_isX, ↓x_xattr, rvC_d, rvC_own, consO_s, isTy_s, isTy_l, mgC_own, walk_l, walk_t, walk_s, toR_d, toR_o, items_l, items_t, ok_s, ok_i, ok_b, ok_n, ok_l, ok_t, okL_n, okL_c, e_ss, e_ii, e_bb, e_ll, e_tt, eL_nn, eL_cc, eL_nc, eL_cn, ty_s, ty_i, ty_l, ty_b, kgC_dK, key_i, key_s, kI_eq, kS_eq, oneR_1, walkE_l, walkE_t, walkE_s, ty_t, twoR_2, side_l, side_t, twoD_2, ow_nil, ow_un, ow_d, m_app, m_ext, m_rev, sline, startC, restE, restC, wipeE, wipeC, plainC, List.getElem?_cons_zero, List.getElem?_cons_succ, List.getD_cons_zero, List.getD_cons_succ, List.set_cons_zero, List.set_cons_succ, List.length_cons, List.length_nil, List.map_cons, List.map_nil, List.replicate_succ, List.replicate_zero, List.cons_append, List.nil_append, Nat.reduceAdd, Nat.reduceMul, Int.reduceAdd, Int.reduceSub, Int.reduceMul, Nat.reduceSub, Nat.reduceLT, Nat.reduceLeDiff, Nat.lt_add_one, Int.reduceNeg, Int.reduceLT, Int.reduceLE, Int.reduceToNat, Int.reducePow, Nat.reducePow, List.flatten_cons, List.flatten_nil, List.append_nil, true_and, and_true, true_or, or_true, eq_self, and_self, decide_true, decide_false, Bool.not_true, Bool.not_false, Bool.not_not, Option.isSome_some, Bool.and_true, Bool.true_and, Bool.and_self, reduceIte, ↓reduceIte, Bool.false_eq_true, ite_self, reduceCtorEq, ne_eq, not_false_eq_true, forall_const, ↓x_gtup, ↓a_repr, ↓x_min1, ↓a_min2S, ↓x_yes, ↓x_ite, x_gnil, walk_l, walk_t, walk_s]
      rw [trH_eq]
      simp -dsimp only [↓opt_some, ↓br_true, ↓br_false, ↓nameC_d, ↓nameC_own, ↓nameC_dK, ↓nameC_dT, ↓x_name, ↓fzC_d, ↓fzC_own, ↓x_fzn, ↓x_fzd, ↓x_fzo, ↓x_rvn, ↓x_rvd, ↓x_rvo, ↓retC_d, ↓retC_own, ↓x_retn, ↓x_retd, ↓x_reto, ↓x_hd, ↓x_ho, ↓x_hn, ↓x_ad, ↓x_ao, ↓x_an, ↓x_set, ↓x_seq, ↓x_next, ↓x_break, ↓x_cont, ↓x_drop, ↓x_ret, ↓x_retN, ↓x_if, ↓x_asg, ↓x_asgG, ↓x_while, ↓x_for, ↓x_2, ↓x_1, ↓x_D, ↓bC_b, ↓x_B, ↓x_and, ↓x_or, ↓x_not, ↓x_andV, ↓x_orV, ↓x_notV, ↓x_tif, ↓x_nil, ↓x_cons, ↓x_tup, ↓x_lst, ↓x_rnil, ↓x_rcons, ↓x_callP, ↓x_rvLc, ↓x_rvLn, ↓x_meth, ↓x_meth0, ↓x_mut, ↓x_mg, ↓x_ms, ↓x_sl, ↓x_on, ↓iC_i, ↓x_os, ↓x_lc, ↓x_any, ↓x_pure, ↓sC_s, ↓x_rev, ↓x_call, ↓x_gn, ↓x_gnil, ↓x_gcons, ↓x_isi, ↓a_ii, ↓a_ss, ↓a_ll, ↓a_tt, ↓a_I, ↓a_neg, ↓a_mul, ↓a_mulL, ↓a_mulS, ↓a_eq, ↓a_ne, ↓a_lt, ↓a_le, ↓a_gt, ↓a_ge, ↓a_ltS, ↓a_leS, ↓a_inS, ↓a_ninS, ↓a_inL, ↓a_ninL, ↓a_inT, ↓a_ninT, ↓a_ixL, ↓a_ixT, ↓a_ixS, ↓a_ixR, ↓a_ixB, ↓a_slL, ↓a_slT, ↓a_slS, ↓a_lenS, ↓a_lenL, ↓a_lenT, ↓a_lenR, ↓a_join, ↓a_ixof, ↓a_ixofL, ↓a_rng1, ↓a_rng2, ↓a_min2, ↓a_max2, ↓a_lstS, ↓a_lstL, ↓a_lstT, ↓a_int, ↓a_intB, ↓a_isN, ↓x_popAt, ↓x_all, ↓x_anyB, ↓a_isB, ↓a_pop, ↓x_dict0, ↓x_aK, ↓x_kg, ↓x_ks, ↓x_dg, ↓x_di, ↓x_dpt, ↓x_enum, ↓a_backL, ↓a_backT, ↓x_never, ↓a_tupL, ↓a_tupT, ↓x_sort, ↓x_sortS, ↓x_sortP, ↓a_slR, ↓x_zip, ↓x_sum, ↓a_count, ↓augC_i, ↓x_aug, ↓x_par, ↓x_raise, ↓x_callX, ↓x_try, ↓x_subA, ↓x_setN, ↓a_two, ↓x_swIx, ↓x_mkX, ↓x_mk0, ↓x_raise0, ↓a_exB, ↓a_tbl, ↓a_cbl, ↓x_isX, ↓x_xattr, rvC_d, rvC_own, consO_s, isTy_s, isTy_l, mgC_own, walk_l, walk_t, walk_s, toR_d, toR_o, items_l, items_t, ok_s, ok_i, ok_b, ok_n, ok_l, ok_t, okL_n, okL_c, e_ss, e_ii, e_bb, e_ll, e_tt, eL_nn, eL_cc, eL_nc, eL_cn, ty_s, ty_i, ty_l, ty_b, kgC_dK, key_i, key_s, kI_eq, kS_eq, oneR_1, walkE_l, walkE_t, walkE_s, ty_t, twoR_2, side_l, side_t, twoD_2, ow_nil, ow_un, ow_d, m_app, m_ext, m_rev, sline, startC, restE, restC, wipeE, wipeC, plainC, List.getElem?_cons_zero, List.getElem?_cons_succ, List.getD_cons_zero, List.getD_cons_succ, List.set_cons_zero, List.set_cons_succ, List.length_cons, List.length_nil, List.map_cons, List.map_nil, List.replicate_succ, List.replicate_zero, List.cons_append, List.nil_append, Nat.reduceAdd, Nat.reduceMul, Int.reduceAdd, Int.reduceSub, Int.reduceMul, Nat.reduceSub, Nat.reduceLT, Nat.reduceLeDiff, Nat.lt_add_one, Int.reduceNeg, Int.reduceLT, Int.reduceLE, Int.reduceToNat, Int.reducePow, Nat.reducePow, List.flatten_cons, List.flatten_nil, List.append_nil, true_and, and_true, true_or, or_true, eq_self, and_self, decide_true, decide_false, Bool.not_true, Bool.not_false, Bool.not_not, Option.isSome_some, Bool.and_true, Bool.true_and, Bool.and_self, reduceIte, ↓reduceIte, Bool.false_eq_true, ite_self, reduceCtorEq, ne_eq, not_false_eq_true, forall_const, ↓x_gtup, ↓a_repr, ↓x_min1, ↓a_min2S, ↓x_yes, ↓x_ite, x_gnil, walk_l, walk_t, walk_s]
      exact q
    · have hw : ¬ way = 0 := of_decide_eq_false h
      simp -dsimp only [↓opt_some, ↓br_true, ↓br_false, ↓nameC_d, ↓nameC_own, ↓nameC_dK, ↓nameC_dT, ↓x_name, ↓fzC_d, ↓fzC_own, ↓x_fzn, ↓x_fzd, ↓x_fzo, ↓x_rvn, ↓x_rvd, ↓x_rvo, ↓retC_d, ↓retC_own, ↓x_retn, ↓x_retd, ↓x_reto, ↓x_hd, ↓x_ho, ↓x_hn, ↓x_ad, ↓x_ao, ↓x_an, ↓x_set, ↓x_seq, ↓x_next, ↓x_break, ↓x_cont, ↓x_drop, ↓x_ret, ↓x_retN, ↓x_if, ↓x_asg, ↓x_asgG, ↓x_while, ↓x_for, ↓x_2, ↓x_1, ↓x_D, ↓bC_b, ↓x_B, ↓x_and, ↓x_or, ↓x_not, ↓x_andV, ↓x_orV, ↓x_notV, ↓x_tif, ↓x_nil, ↓x_cons, ↓x_tup, ↓x_lst, ↓x_rnil, ↓x_rcons, ↓x_callP, ↓x_rvLc, ↓x_rvLn, ↓x_meth, ↓x_meth0, ↓x_mut, ↓x_mg, ↓x_ms, ↓x_sl, ↓x_on, ↓iC_i, ↓x_os, ↓x_lc, ↓x_any, ↓x_pure, ↓sC_s, ↓x_rev, ↓x_call, ↓x_gn, ↓x_gnil, ↓x_gcons, ↓x_isi, ↓a_ii, ↓a_ss, ↓a_ll, ↓a_tt, ↓a_I, ↓a_neg, ↓a_mul, ↓a_mulL, ↓a_mulS, ↓a_eq, ↓a_ne, ↓a_lt, ↓a_le, ↓a_gt, ↓a_ge, ↓a_ltS, ↓a_leS, ↓a_inS, ↓a_ninS, ↓a_inL, ↓a_ninL, ↓a_inT, ↓a_ninT, ↓a_ixL, ↓a_ixT, ↓a_ixS, ↓a_ixR, ↓a_ixB, ↓a_slL, ↓a_slT, ↓a_slS, ↓a_lenS, ↓a_lenL, ↓a_lenT, ↓a_lenR, ↓a_join, ↓a_ixof, ↓a_ixofL, ↓a_rng1, ↓a_rng2, ↓a_min2, ↓a_max2, ↓a_lstS, ↓a_lstL, ↓a_lstT, ↓a_int, ↓a_intB, ↓a_isN, ↓x_popAt, ↓x_all, ↓x_anyB, ↓a_isB, ↓a_pop, ↓x_dict0, ↓x_aK, ↓x_kg, ↓x_ks, ↓x_dg, ↓x_di, ↓x_dpt, ↓x_enum, ↓a_backL, ↓a_backT, ↓x_never, ↓a_tupL, ↓a_tupT, ↓x_sort, ↓x_sortS, ↓x_sortP, ↓a_slR, ↓x_zip, ↓x_sum, ↓a_count, ↓augC_i, ↓x_aug, ↓x_par, ↓x_raise, ↓x_callX, ↓x_try, ↓x_subA, ↓x_setN, ↓a_two, ↓x_swIx, ↓x_mkX, ↓x_mk0, ↓x_raise0, ↓a_exB, ↓a_tbl, ↓a_cbl, ↓x_isX, ↓x_xattr, rvC_d, rvC_own, consO_s, isTy_s, isTy_l, mgC_own, walk_l, walk_t, walk_s, toR_d, toR_o, items_l, items_t, ok_s, ok_i, ok_b, ok_n, ok_l, ok_t, okL_n, okL_c, e_ss, e_ii, e_bb, e_ll, e_tt, eL_nn, eL_cc, eL_nc, eL_cn, ty_s, ty_i, ty_l, ty_b, kgC_dK, key_i, key_s, kI_eq, kS_eq, oneR_1, walkE_l, walkE_t, walkE_s, ty_t, twoR_2, side_l, side_t, twoD_2, ow_nil, ow_un, ow_d, m_app, m_ext, m_rev, sline, startC, restE, restC, wipeE, wipeC, plainC, List.getElem?_cons_zero, List.getElem?_cons_succ, List.getD_cons_zero, List.getD_cons_succ, List.set_cons_zero, List.set_cons_succ, List.length_cons, List.length_nil, List.map_cons, List.map_nil, List.replicate_succ, List.replicate_zero, List.cons_append, List.nil_append, Nat.reduceAdd, Nat.reduceMul, Int.reduceAdd, Int.reduceSub, Int.reduceMul, Nat.reduceSub, Nat.reduceLT, Nat.reduceLeDiff, Nat.lt_add_one, Int.reduceNeg, Int.reduceLT, Int.reduceLE, Int.reduceToNat, Int.reducePow, Nat.reducePow, List.flatten_cons, List.flatten_nil, List.append_nil, true_and, and_true, true_or, or_true, eq_self, and_self, decide_true, decide_false, Bool.not_true, Bool.not_false, Bool.not_not, Option.isSome_some, Bool.and_true, Bool.true_and, Bool.and_self, reduceIte, ↓reduceIte, Bool.false_eq_true, ite_self, reduceCtorEq, ne_eq, not_false_eq_true, forall_const, ↓x_gtup, ↓a_repr, ↓x_min1, ↓a_min2S, ↓x_yes, ↓x_ite, x_gnil, walk_l, walk_t, walk_s]
      refine br_intro (fun h => ?_) (fun h => ?_)
      · have hw1 : way = 1 := of_decide_eq_true h
        have e : cD way n w = .exc 8 ["name"] [.str w] := (if_neg hw).trans (if_pos hw1)
        rw [e] at q
        simp -dsimp only [↓opt_some, ↓br_true, ↓br_false, ↓nameC_d, ↓nameC_own, ↓nameC_dK, ↓nameC_dT, ↓x_name, ↓fzC_d, ↓fzC_own, ↓x_fzn, ↓x_fzd, ↓x_fzo, ↓x_rvn, ↓x_rvd, ↓x_rvo, ↓retC_d, ↓retC_own, ↓x_retn, ↓x_retd, ↓x_reto, ↓x_hd, ↓x_ho, ↓x_hn, ↓x_ad, ↓x_ao, ↓x_an, ↓x_set, ↓x_seq, ↓x_next, ↓x_break, ↓x_cont, ↓x_drop, ↓x_ret, ↓x_retN, ↓x_if, ↓x_asg, ↓x_asgG, ↓x_while, ↓x_for, ↓x_2, ↓x_1, ↓x_D, ↓bC_b, ↓x_B, ↓x_and, ↓x_or, ↓x_not, ↓x_andV, ↓x_orV, ↓x_notV, ↓x_tif, ↓x_nil, ↓x_cons, ↓x_tup, ↓x_lst, ↓x_rnil, ↓x_rcons, ↓x_callP, ↓x_rvLc, ↓x_rvLn, ↓x_meth, ↓x_meth0, ↓x_mut, ↓x_mg, ↓x_ms, ↓x_sl, ↓x_on, ↓iC_i, ↓x_os, ↓x_lc, ↓x_any, ↓x_pure, ↓sC_s, ↓x_rev, ↓x_call, ↓x_gn, ↓x_gnil, ↓x_gcons, ↓x_isi, ↓a_ii, ↓a_ss, ↓a_ll, ↓a_tt, ↓a_I, ↓a_neg, ↓a_mul, ↓a_mulL, ↓a_mulS, ↓a_eq, ↓a_ne, ↓a_lt, ↓a_le, ↓a_gt, ↓a_ge, ↓a_ltS, ↓a_leS, ↓a_inS, ↓a_ninS, ↓a_inL, ↓a_ninL, ↓a_inT, ↓a_ninT, ↓a_ixL, ↓a_ixT, ↓a_ixS, ↓a_ixR, ↓a_ixB, ↓a_slL, ↓a_slT, ↓a_slS, ↓a_lenS, ↓a_lenL, ↓a_lenT, ↓a_lenR, ↓a_join, ↓a_ixof, ↓a_ixofL, ↓a_rng1, ↓a_rng2, ↓a_min2, ↓a_max2, ↓a_lstS, ↓a_lstL, ↓a_lstT, ↓a_int, ↓a_intB, ↓a_isN, ↓x_popAt, ↓x_all, ↓x_anyB, ↓a_isB, ↓a_pop, ↓x_dict0, ↓x_aK, ↓x_kg, ↓x_ks, ↓x_dg, ↓x_di, ↓x_dpt, ↓x_enum, ↓a_backL, ↓a_backT, ↓x_never, ↓a_tupL, ↓a_tupT, ↓x_sort, ↓x_sortS, ↓x_sortP, ↓a_slR, ↓x_zip, ↓x_sum, ↓a_count, ↓augC_i, ↓x_aug, ↓x_par, ↓x_raise, ↓x_callX, ↓x_try, ↓x_subA, ↓x_setN, ↓a_two, ↓x_swIx, ↓x_mkX, ↓x_mk0, ↓x_raise0, ↓a_exB, ↓a_tbl, ↓a_cbl, ↓x_isX, ↓x_xattr, rvC_d, rvC_own, consO_s, isTy_s, isTy_l, mgC_own, walk_l, walk_t, walk_s, toR_d, toR_o, items_l, items_t, ok_s, ok_i, ok_b, ok_n, ok_l, ok_t, okL_n, okL_c, e_ss, e_ii, e_bb, e_ll, e_tt, eL_nn, eL_cc, eL_nc, eL_cn, ty_s, ty_i, ty_l, ty_b, kgC_dK, key_i, key_s, kI_eq, kS_eq, oneR_1, walkE_l, walkE_t, walkE_s, ty_t, twoR_2, side_l, side_t, twoD_2, ow_nil, ow_un, ow_d, m_app, m_ext, m_rev, sline, startC, restE, restC, wipeE, wipeC, plainC, List.getElem?_cons_zero, List.getElem?_cons_succ, List.getD_cons_zero, List.getD_cons_succ, List.set_cons_zero, List.set_cons_succ, List.length_cons, List.length_nil, List.map_cons, List.map_nil, List.replicate_succ, List.replicate_zero, List.cons_append, List.nil_append, Nat.reduceAdd, Nat.reduceMul, Int.reduceAdd, Int.reduceSub, Int.reduceMul, Nat.reduceSub, Nat.reduceLT, Nat.reduceLeDiff, Nat.lt_add_one, Int.reduceNeg, Int.reduceLT, Int.reduceLE, Int.reduceToNat, Int.reducePow, Nat.reducePow, List.flatten_cons, List.flatten_nil, List.append_nil, true_and, and_true, true_or, or_true, eq_self, and_self, decide_true, decide_false, Bool.not_true, Bool.not_false, Bool.not_not, Option.isSome_some, Bool.and_true, Bool.true_and, Bool.and_self, reduceIte, ↓reduceIte, Bool.false_eq_true, ite_self, reduceCtorEq, ne_eq, not_false_eq_true, forall_const, ↓x_gtup, ↓a_repr, ↓x_min1, ↓a_min2S, ↓x_yes, ↓x_ite, x_gnil, walk_l, walk_t, walk_s]
        rw [trH_eq]
        simp -dsimp only [↓opt_some, ↓br_true, ↓br_false, ↓nameC_d, ↓nameC_own, ↓nameC_dK, ↓nameC_dT, ↓x_name, ↓fzC_d, ↓fzC_own, ↓x_fzn, ↓x_fzd, ↓x_fzo, ↓x_rvn, ↓x_rvd, ↓x_rvo, ↓retC_d, ↓retC_own, ↓x_retn, ↓x_retd, ↓x_reto, ↓x_hd, ↓x_ho, ↓x_hn, ↓x_ad, ↓x_ao, ↓x_an, ↓x_set, ↓x_seq, ↓x_next, ↓x_break, ↓x_cont, ↓x_drop, ↓x_ret, ↓x_retN, ↓x_if, ↓x_asg, ↓x_asgG, ↓x_while, ↓x_for, ↓x_2, ↓x_1, ↓x_D, ↓bC_b, ↓x_B, ↓x_and, ↓x_or, ↓x_not, ↓x_andV, ↓x_orV, ↓x_notV, ↓x_tif, ↓x_nil, ↓x_cons, ↓x_tup, ↓x_lst, ↓x_rnil, ↓x_rcons, ↓x_callP, ↓x_rvLc, ↓x_rvLn, ↓x_meth, ↓x_meth0, ↓x_mut, ↓x_mg, ↓x_ms, ↓x_sl, ↓x_on, ↓iC_i, ↓x_os, ↓x_lc, ↓x_any, ↓x_pure, ↓sC_s, ↓x_rev, ↓x_call, ↓x_gn, ↓x_gnil, ↓x_gcons, ↓x_isi, ↓a_ii, ↓a_ss, ↓a_ll, ↓a_tt, ↓a_I, ↓a_neg, ↓a_mul, ↓a_mulL, ↓a_mulS, ↓a_eq, ↓a_ne, ↓a_lt, ↓a_le, ↓a_gt, ↓a_ge, ↓a_ltS, ↓a_leS, ↓a_inS, ↓a_ninS, ↓a_inL, ↓a_ninL, ↓a_inT, ↓a_ninT, ↓a_ixL, ↓a_ixT, ↓a_ixS, ↓a_ixR, ↓a_ixB, ↓a_slL, ↓a_slT, ↓a_slS, ↓a_lenS, ↓a_lenL, ↓a_lenT, ↓a_lenR, ↓a_join, ↓a_ixof, ↓a_ixofL, ↓a_rng1, ↓a_rng2, ↓a_min2, ↓a_max2, ↓a_lstS, ↓a_lstL, ↓a_lstT, ↓a_int, ↓a_intB, ↓a_isN, ↓x_popAt, ↓x_all, ↓x_anyB, ↓a_isB, ↓a_pop, ↓x_dict0, ↓x_aK, ↓x_kg, ↓x_ks, ↓x_dg, ↓x_di, ↓x_dpt, ↓x_enum, ↓a_backL, ↓a_backT, ↓x_never, ↓a_tupL, ↓a_tupT, ↓x_sort, ↓x_sortS, ↓x_sortP, ↓a_slR, ↓x_zip, ↓x_sum, ↓a_count, ↓augC_i, ↓x_aug, ↓x_par, ↓x_raise, ↓x_callX, ↓x_try, ↓x_subA, ↓x_setN, ↓a_two, ↓x_swIx, ↓x_mkX, ↓x_mk0, ↓x_raise0, ↓a_exB, ↓a_tbl, ↓a_cbl, ↓x_isX, ↓x_xattr, rvC_d, rvC_own, consO_s, isTy_s, isTy_l, mgC_own, walk_l, walk_t, walk_s, toR_d, toR_o, items_l, items_t, ok_s, ok_i, ok_b, ok_n, ok_l, ok_t, okL_n, okL_c, e_ss, e_ii, e_bb, e_ll, e_tt, eL_nn, eL_cc, eL_nc, eL_cn, ty_s, ty_i, ty_l, ty_b, kgC_dK, key_i, key_s, kI_eq, kS_eq, oneR_1, walkE_l, walkE_t, walkE_s, ty_t, twoR_2, side_l, side_t, twoD_2, ow_nil, ow_un, ow_d, m_app, m_ext, m_rev, sline, startC, restE, restC, wipeE, wipeC, plainC, List.getElem?_cons_zero, List.getElem?_cons_succ, List.getD_cons_zero, List.getD_cons_succ, List.set_cons_zero, List.set_cons_succ, List.length_cons, List.length_nil, List.map_cons, List.map_nil, List.replicate_succ, List.replicate_zero, List.cons_append, List.nil_append, Nat.reduceAdd, Nat.reduceMul, Int.reduceAdd, Int.reduceSub, Int.reduceMul, Nat.reduceSub, Nat.reduceLT, Nat.reduceLeDiff, Nat.lt_add_one, Int.reduceNeg, Int.reduceLT, Int.reduceLE, Int.reduceToNat, Int.reducePow, Nat.reducePow, List.flatten_cons, List.flatten_nil, List.append_nil, true_and, and_true, true_or, or_true, eq_self, and_self, decide_true, decide_false, Bool.not_true, Bool.not_false, Bool.not_not, Option.isSome_some, Bool.and_true, Bool.true_and, Bool.and_self, reduceIte, ↓reduceIte, Bool.false_eq_true, ite_self, reduceCtorEq, ne_eq, not_false_eq_true, forall_const, ↓x_gtup, ↓a_repr, ↓x_min1, ↓a_min2S, ↓x_yes, ↓x_ite, x_gnil, walk_l, walk_t, walk_s]
        exact q
      · have hw1 : ¬ way = 1 := of_decide_eq_false h
        have e : cD way n w = .exc 11 [] [] := (if_neg hw).trans (if_neg hw1)
        rw [e] at q
        simp -dsimp only [↓opt_some, ↓br_true, ↓br_false, ↓nameC_d, ↓nameC_own, ↓nameC_dK, ↓nameC_dT, ↓x_name, ↓fzC_d, ↓fzC_own, ↓x_fzn, ↓x_fzd, ↓x_fzo, ↓x_rvn, ↓x_rvd, ↓x_rvo, ↓retC_d, ↓retC_own, ↓x_retn, ↓x_retd, ↓x_reto, ↓x_hd, ↓x_ho, ↓x_hn, ↓x_ad, ↓x_ao, ↓x_an, ↓x_set, ↓x_seq, ↓x_next, ↓x_break, ↓x_cont, ↓x_drop, ↓x_ret, ↓x_retN, ↓x_if, ↓x_asg, ↓x_asgG, ↓x_while, ↓x_for, ↓x_2, ↓x_1, ↓x_D, ↓bC_b, ↓x_B, ↓x_and, ↓x_or, ↓x_not, ↓x_andV, ↓x_orV, ↓x_notV, ↓x_tif, ↓x_nil, ↓x_cons, ↓x_tup, ↓x_lst, ↓x_rnil, ↓x_rcons, ↓x_callP, ↓x_rvLc, ↓x_rvLn, ↓x_meth, ↓x_meth0, ↓x_mut, ↓x_mg, ↓x_ms, ↓x_sl, ↓x_on, ↓iC_i, ↓x_os, ↓x_lc, ↓x_any, ↓x_pure, ↓sC_s, ↓x_rev, ↓x_call, ↓x_gn, ↓x_gnil, ↓x_gcons, ↓x_isi, ↓a_ii, ↓a_ss, ↓a_ll, ↓a_tt, ↓a_I, ↓a_neg, ↓a_mul, ↓a_mulL, ↓a_mulS, ↓a_eq, ↓a_ne, ↓a_lt, ↓a_le, ↓a_gt, ↓a_ge, ↓a_ltS, ↓a_leS, ↓a_inS, ↓a_ninS, ↓a_inL, ↓a_ninL, ↓a_inT, ↓a_ninT, ↓a_ixL, ↓a_ixT, ↓a_ixS, ↓a_ixR, ↓a_ixB, ↓a_slL, ↓a_slT, ↓a_slS, ↓a_lenS, ↓a_lenL, ↓a_lenT, ↓a_lenR, ↓a_join, ↓a_ixof, ↓a_ixofL, ↓a_rng1, ↓a_rng2, ↓a_min2, ↓a_max2, ↓a_lstS, ↓a_lstL, ↓a_lstT, ↓a_int, ↓a_intB, ↓a_isN, ↓x_popAt, ↓x_all, ↓x_anyB, ↓a_isB, ↓a_pop, ↓x_dict0, ↓x_aK, ↓x_kg, ↓x_ks, ↓x_dg, ↓x_di, ↓x_dpt, ↓x_enum, ↓a_backL, ↓a_backT, ↓x_never, ↓a_tupL, ↓a_tupT, ↓x_sort, ↓x_sortS, ↓x_sortP, ↓a_slR, ↓x_zip, ↓x_sum, ↓a_count, ↓augC_i, ↓x_aug, ↓x_par, ↓x_raise, ↓x_callX, ↓x_try, ↓x_subA, ↓x_setN, ↓a_two, ↓x_swIx, ↓x_mkX, ↓x_mk0, ↓x_raise0, ↓a_exB, ↓a_tbl, ↓a_cbl, ↓x_isX, ↓x_xattr, rvC_d, rvC_own, consO_s, isTy_s, isTy_l, mgC_own, walk_l, walk_t, walk_s, toR_d, toR_o, items_l, items_t, ok_s, ok_i, ok_b, ok_n, ok_l, ok_t, okL_n, okL_c, e_ss, e_ii, e_bb, e_ll, e_tt, eL_nn, eL_cc, eL_nc, eL_cn, ty_s, ty_i, ty_l, ty_b, kgC_dK, key_i, key_s, kI_eq, kS_eq, oneR_1, walkE_l, walkE_t, walkE_s, ty_t, twoR_2, side_l, side_t, twoD_2, ow_nil, ow_un, ow_d, m_app, m_ext, m_rev, sline, startC, restE, restC, wipeE, wipeC, plainC, List.getElem?_cons_zero, List.getElem?_cons_succ, List.getD_cons_zero, List.getD_cons_succ, List.set_cons_zero, List.set_cons_succ, List.length_cons, List.length_nil, List.map_cons, List.map_nil, List.replicate_succ, List.replicate_zero, List.cons_append, List.nil_append, Nat.reduceAdd, Nat.reduceMul, Int.reduceAdd, Int.reduceSub, Int.reduceMul, Nat.reduceSub, Nat.reduceLT, Nat.reduceLeDiff, Nat.lt_add_one, Int.reduceNeg, Int.reduceLT, Int.reduceLE, Int.reduceToNat, Int.reducePow, Nat.reducePow, List.flatten_cons, List.flatten_nil, List.append_nil, true_and, and_true, true_or, or_true, eq_self, and_self, decide_true, decide_false, Bool.not_true, Bool.not_false, Bool.not_not, Option.isSome_some, Bool.and_true, Bool.true_and, Bool.and_self, reduceIte, ↓reduceIte, Bool.false_eq_true, ite_self, reduceCtorEq, ne_eq, not_false_eq_true, forall_const, ↓x_gtup, ↓a_repr, ↓x_min1, ↓a_min2S, ↓x_yes, ↓x_ite, x_gnil, walk_l, walk_t, walk_s]
        rw [trH_eq]
        simp -dsimp only [↓opt_some, ↓br_true, ↓br_false, ↓nameC_d, ↓nameC_own, ↓nameC_dK, ↓nameC_dT, ↓x_name, ↓fzC_d, ↓fzC_own, ↓x_fzn, ↓x_fzd, ↓x_fzo, ↓x_rvn, ↓x_rvd, ↓x_rvo, ↓retC_d, ↓retC_own, ↓x_retn, ↓x_retd, ↓x_reto, ↓x_hd, ↓x_ho, ↓x_hn, ↓x_ad, ↓x_ao, ↓x_an, ↓x_set, ↓x_seq, ↓x_next, ↓x_break, ↓x_cont, ↓x_drop, ↓x_ret, ↓x_retN, ↓x_if, ↓x_asg, ↓x_asgG, ↓x_while, ↓x_for, ↓x_2, ↓x_1, ↓x_D, ↓bC_b, ↓x_B, ↓x_and, ↓x_or, ↓x_not, ↓x_andV, ↓x_orV, ↓x_notV, ↓x_tif, ↓x_nil, ↓x_cons, ↓x_tup, ↓x_lst, ↓x_rnil, ↓x_rcons, ↓x_callP, ↓x_rvLc, ↓x_rvLn, ↓x_meth, ↓x_meth0, ↓x_mut, ↓x_mg, ↓x_ms, ↓x_sl, ↓x_on, ↓iC_i, ↓x_os, ↓x_lc, ↓x_any, ↓x_pure, ↓sC_s, ↓x_rev, ↓x_call, ↓x_gn, ↓x_gnil, ↓x_gcons, ↓x_isi, ↓a_ii, ↓a_ss, ↓a_ll, ↓a_tt, ↓a_I, ↓a_neg, ↓a_mul, ↓a_mulL, ↓a_mulS, ↓a_eq, ↓a_ne, ↓a_lt, ↓a_le, ↓a_gt, ↓a_ge, ↓a_ltS, ↓a_leS, ↓a_inS, ↓a_ninS, ↓a_inL, ↓a_ninL, ↓a_inT, ↓a_ninT, ↓a_ixL, ↓a_ixT, ↓a_ixS, ↓a_ixR, ↓a_ixB, ↓a_slL, ↓a_slT, ↓a_slS, ↓a_lenS, ↓a_lenL, ↓a_lenT, ↓a_lenR, ↓a_join, ↓a_ixof, ↓a_ixofL, ↓a_rng1, ↓a_rng2, ↓a_min2, ↓a_max2, ↓a_lstS, ↓a_lstL, ↓a_lstT, ↓a_int, ↓a_intB, ↓a_isN, ↓x_popAt, ↓x_all, ↓x_anyB, ↓a_isB, ↓a_pop, ↓x_dict0, ↓x_aK, ↓x_kg, ↓x_ks, ↓x_dg, ↓x_di, ↓x_dpt, ↓x_enum, ↓a_backL, ↓a_backT, ↓x_never, ↓a_tupL, ↓a_tupT, ↓x_sort, ↓x_sortS, ↓x_sortP, ↓a_slR, ↓x_zip, ↓x_sum, ↓a_count, ↓augC_i, ↓x_aug, ↓x_par, ↓x_raise, ↓x_callX, ↓x_try, ↓x_subA, ↓x_setN, ↓a_two, ↓x_swIx, ↓x_mkX, ↓x_mk0, ↓x_raise0, ↓a_exB, ↓a_tbl, ↓a_cbl, ↓x_isX, ↓x_xattr, rvC_d, rvC_own, consO_s, isTy_s, isTy_l, mgC_own, walk_l, walk_t, walk_s, toR_d, toR_o, items_l, items_t, ok_s, ok_i, ok_b, ok_n, ok_l, ok_t, okL_n, okL_c, e_ss, e_ii, e_bb, e_ll, e_tt, eL_nn, eL_cc, eL_nc, eL_cn, ty_s, ty_i, ty_l, ty_b, kgC_dK, key_i, key_s, kI_eq, kS_eq, oneR_1, walkE_l, walkE_t, walkE_s, ty_t, twoR_2, side_l, side_t, twoD_2, ow_nil, ow_un, ow_d, m_app, m_ext, m_rev, sline, startC, restE, restC, wipeE, wipeC, plainC, List.getElem?_cons_zero, List.getElem?_cons_succ, List.getD_cons_zero, List.getD_cons_succ, List.set_cons_zero, List.set_cons_succ, List.length_cons, List.length_nil, List.map_cons, List.map_nil, List.replicate_succ, List.replicate_zero, List.cons_append, List.nil_append, Nat.reduceAdd, Nat.reduceMul, Int.reduceAdd, Int.reduceSub, Int.reduceMul, Nat.reduceSub, Nat.reduceLT, Nat.reduceLeDiff, Nat.lt_add_one, Int.reduceNeg, Int.reduceLT, Int.reduceLE, Int.reduceToNat, Int.reducePow, Nat.reducePow, List.flatten_cons, List.flatten_nil, List.append_nil, true_and, and_true, true_or, or_true, eq_self, and_self, decide_true, decide_false, Bool.not_true, Bool.not_false, Bool.not_not, Option.isSome_some, Bool.and_true, Bool.true_and, Bool.and_self, reduceIte, ↓reduceIte, Bool.false_eq_true, ite_self, reduceCtorEq, ne_eq, not_false_eq_true, forall_const, ↓x_gtup, ↓a_repr, ↓x_min1, ↓a_min2S, ↓x_yes, ↓x_ite, x_gnil, walk_l, walk_t, walk_s]
        exact q
  · exact h.elim
def fL (n : Int) (w : List Nat) : List D := [.int n, .int n, .str w, .int n, .int n, .int n, .str w, .str w, .str w, .str w]
def m_law_fields : PM := fun ds st Q => match ds with
  | [.lst vs] => ∃ n w, vs = eL n w ∧ Q (.own (fL n w)) st
  | _ => False
theorem e_fields {n w s Q} (q : Q (.own (fL n w)) s) : m_law_fields [.lst (eL n w)] s Q := ⟨n, w, rfl, q⟩
def t_law_fields : PTS := sSeq (sAsg 1 (tLst (tCons (tXA "at" (cbT [true, true, true, false, true, false, false, false, false, false, false, false, false]) (t2 (tName 0) (tD (.int 0)) pIx)) (tCons (tXA "at" (cbT [true, true, true, false, true, false, false, false, false, false, false, false, false]) (t2 (tName 0) (tD (.int 1)) pIx)) (tCons (tXA "word" (cbT [false, false, true, false, false, true, false, false, false, false, false, false, false]) (t2 (tName 0) (tD (.int 2)) pIx)) (tCons (tXA "at" (cbT [true, true, true, false, true, false, false, false, false, false, false, false, false]) (t2 (tName 0) (tD (.int 2)) pIx)) (tCons (tXA "row" (cbT [false, false, false, true, false, false, false, false, false, false, false, false, false]) (t2 (tName 0) (tD (.int 3)) pIx)) (tCons (tXA "at" (cbT [true, true, true, false, true, false, false, false, false, false, false, false, false]) (t2 (tName 0) (tD (.int 4)) pIx)) (tCons (tXA "word" (cbT [false, false, true, false, false, true, false, false, false, false, false, false, false]) (t2 (tName 0) (tD (.int 5)) pIx)) (tNil)))))))))) (sRet (t2 (tName 1) (tLst (tCons (tXA "name" (cbT [false, false, false, false, false, false, true, true, true, false, false, false, false]) (t2 (tName 0) (tD (.int 6)) pIx)) (tCons (tXA "name" (cbT [false, false, false, false, false, false, true, true, true, false, false, false, false]) (t2 (tName 0) (tD (.int 7)) pIx)) (tCons (tXA "name" (cbT [false, false, false, false, false, false, true, true, true, false, false, false, false]) (t2 (tName 0) (tD (.int 8)) pIx)) (tNil))))) pAdd))
abbrev N_law_fields : List Str := ["_law_made_here", "_law_found"]
theorem len_law_fields (ds : List D) (s : Sto) (Q : C → Sto → Prop) (h : m_law_fields ds s Q) : ds.length = 1 := by
  unfold m_law_fields at h
  split at h
  · rfl
  · exact h.elim
theorem p_law_fields (ds : List D) (s : Sto) (Q : C → Sto → Prop) (h : m_law_fields ds s Q) : t_law_fields noX { nx := fun e => Q (.d .non) e.st, rt := fun c e => Q c e.st } ⟨startC N_law_fields ds, s⟩ := by
  unfold m_law_fields at h
  split at h
  · obtain ⟨n, w, rfl, q⟩ := h
    unfold t_law_fields eL
    simp -dsimp only [↓opt_some, ↓br_true, ↓br_false, ↓nameC_d, ↓nameC_own, ↓nameC_dK, ↓nameC_dT, ↓x_name, ↓fzC_d, ↓fzC_own, ↓x_fzn, ↓x_fzd, ↓x_fzo, ↓x_rvn, ↓x_rvd, ↓x_rvo, ↓retC_d, ↓retC_own, ↓x_retn, ↓x_retd, ↓x_reto, ↓x_hd, ↓x_ho, ↓x_hn, ↓x_ad, ↓x_ao, ↓x_an, ↓x_set, ↓x_seq, ↓x_next, ↓x_break, ↓x_cont, ↓x_drop, ↓x_ret, ↓x_retN, ↓x_if, ↓x_asg, ↓x_asgG, ↓x_while, ↓x_for, ↓x_2, ↓x_1, ↓x_D, ↓bC_b, ↓x_B, ↓x_and, ↓x_or, ↓x_not, ↓x_andV, ↓x_orV, ↓x_notV, ↓x_tif, ↓x_nil, ↓x_cons, ↓x_tup, ↓x_lst, ↓x_rnil, ↓x_rcons, ↓x_callP, ↓x_rvLc, ↓x_rvLn, ↓x_meth, ↓x_meth0, ↓x_mut, ↓x_mg, ↓x_ms, ↓x_sl, ↓x_on, ↓iC_i, ↓x_os, ↓x_lc, ↓x_any, ↓x_pure, ↓sC_s, ↓x_rev, ↓x_call, ↓x_gn, ↓x_gnil, ↓x_gcons, ↓x_isi, ↓a_ii, ↓a_ss, ↓a_ll, ↓a_tt, ↓a_I, ↓a_neg, ↓a_mul, ↓a_mulL, ↓a_mulS, ↓a_eq, ↓a_ne, ↓a_lt, ↓a_le, ↓a_gt, ↓a_ge, ↓a_ltS, ↓a_leS, ↓a_inS, ↓a_ninS, ↓a_inL, ↓a_ninL, ↓a_inT, ↓a_ninT, ↓a_ixL, ↓a_ixT, ↓a_ixS, ↓a_ixR, ↓a_ixB, ↓a_slL, ↓a_slT, ↓a_slS, ↓a_lenS, ↓a_lenL, ↓a_lenT, ↓a_lenR, ↓a_join, ↓a_ixof, ↓a_ixofL, ↓a_rng1, ↓a_rng2, ↓a_min2, ↓a_max2, ↓a_lstS, ↓a_lstL, ↓a_lstT, ↓a_int, ↓a_intB, ↓a_isN, ↓x_popAt, ↓x_all, ↓x_anyB, ↓a_isB, ↓a_pop, ↓x_dict0, ↓x_aK, ↓x_kg, ↓x_ks, ↓x_dg, ↓x_di, ↓x_dpt, ↓x_enum, ↓a_backL, ↓a_backT, ↓x_never, ↓a_tupL, ↓a_tupT, ↓x_sort, ↓x_sortS, ↓x_sortP, ↓a_slR, ↓x_zip, ↓x_sum, ↓a_count, ↓augC_i, ↓x_aug, ↓x_par, ↓x_raise, ↓x_callX, ↓x_try, ↓x_subA, ↓x_setN, ↓a_two, ↓x_swIx, ↓x_mkX, ↓x_mk0, ↓x_raise0, ↓a_exB, ↓a_tbl, ↓a_cbl, ↓x_isX, ↓x_xattr, rvC_d, rvC_own, consO_s, isTy_s, isTy_l, mgC_own, walk_l, walk_t, walk_s, toR_d, toR_o, items_l, items_t, ok_s, ok_i, ok_b, ok_n, ok_l, ok_t, okL_n, okL_c, e_ss, e_ii, e_bb, e_ll, e_tt, eL_nn, eL_cc, eL_nc, eL_cn, ty_s, ty_i, ty_l, ty_b, kgC_dK, key_i, key_s, kI_eq, kS_eq, oneR_1, walkE_l, walkE_t, walkE_s, ty_t, twoR_2, side_l, side_t, twoD_2, ow_nil, ow_un, ow_d, m_app, m_ext, m_rev, sline, startC, restE, restC, wipeE, wipeC, plainC, List.getElem?_cons_zero, List.getElem?_cons_succ, List.getD_cons_zero, List.getD_cons_succ, List.set_cons_zero, List.set_cons_succ, List.length_cons, List.length_nil, List.map_cons, List.map_nil, List.replicate_succ, List.replicate_zero, List.cons_append, List.nil_append, Nat.reduceAdd, Nat.reduceMul, Int.reduceAdd, Int.reduceSub, Int.reduceMul, Nat.reduceSub, Nat.reduceLT, Nat.reduceLeDiff, Nat.lt_add_one, Int.reduceNeg, Int.reduceLT, Int.reduceLE, Int.reduceToNat, Int.reducePow, Nat.reducePow, List.flatten_cons, List.flatten_nil, List.append_nil, true_and, and_true, true_or, or_true, eq_self, and_self, decide_true, decide_false, Bool.not_true, Bool.not_false, Bool.not_not, Option.isSome_some, Bool.and_true, Bool.true_and, Bool.and_self, reduceIte, ↓reduceIte, Bool.false_eq_true, ite_self, reduceCtorEq, ne_eq, not_false_eq_true, forall_const, ↓x_gtup, ↓a_repr, ↓x_min1, ↓a_min2S, ↓x_yes, ↓x_ite, x_gnil, walk_l, walk_t, walk_s]
    refine opt_of (a := D.exc 0 ["at"] [.int n]) rfl ?_
    simp -dsimp only [↓opt_some, ↓br_true, ↓br_false, ↓nameC_d, ↓nameC_own, ↓nameC_dK, ↓nameC_dT, ↓x_name, ↓fzC_d, ↓fzC_own, ↓x_fzn, ↓x_fzd, ↓x_fzo, ↓x_rvn, ↓x_rvd, ↓x_rvo, ↓retC_d, ↓retC_own, ↓x_retn, ↓x_retd, ↓x_reto, ↓x_hd, ↓x_ho, ↓x_hn, ↓x_ad, ↓x_ao, ↓x_an, ↓x_set, ↓x_seq, ↓x_next, ↓x_break, ↓x_cont, ↓x_drop, ↓x_ret, ↓x_retN, ↓x_if, ↓x_asg, ↓x_asgG, ↓x_while, ↓x_for, ↓x_2, ↓x_1, ↓x_D, ↓bC_b, ↓x_B, ↓x_and, ↓x_or, ↓x_not, ↓x_andV, ↓x_orV, ↓x_notV, ↓x_tif, ↓x_nil, ↓x_cons, ↓x_tup, ↓x_lst, ↓x_rnil, ↓x_rcons, ↓x_callP, ↓x_rvLc, ↓x_rvLn, ↓x_meth, ↓x_meth0, ↓x_mut, ↓x_mg, ↓x_ms, ↓x_sl, ↓x_on, ↓iC_i, ↓x_os, ↓x_lc, ↓x_any, ↓x_pure, ↓sC_s, ↓x_rev, ↓x_call, ↓x_gn, ↓x_gnil, ↓x_gcons, ↓x_isi, ↓a_ii, ↓a_ss, ↓a_ll, ↓a_tt, ↓a_I, ↓a_neg, ↓a_mul, ↓a_mulL, ↓a_mulS, ↓a_eq, ↓a_ne, ↓a_lt, ↓a_le, ↓a_gt, ↓a_ge, ↓a_ltS, ↓a_leS, ↓a_inS, ↓a_ninS, ↓a_inL, ↓a_ninL, ↓a_inT, ↓a_ninT, ↓a_ixL, ↓a_ixT, ↓a_ixS, ↓a_ixR, ↓a_ixB, ↓a_slL, ↓a_slT, ↓a_slS, ↓a_lenS, ↓a_lenL, ↓a_lenT, ↓a_lenR, ↓a_join, ↓a_ixof, ↓a_ixofL, ↓a_rng1, ↓a_rng2, ↓a_min2, ↓a_max2, ↓a_lstS, ↓a_lstL, ↓a_lstT, ↓a_int, ↓a_intB, ↓a_isN, ↓x_popAt, ↓x_all, ↓x_anyB, ↓a_isB, ↓a_pop, ↓x_dict0, ↓x_aK, ↓x_kg, ↓x_ks, ↓x_dg, ↓x_di, ↓x_dpt, ↓x_enum, ↓a_backL, ↓a_backT, ↓x_never, ↓a_tupL, ↓a_tupT, ↓x_sort, ↓x_sortS, ↓x_sortP, ↓a_slR, ↓x_zip, ↓x_sum, ↓a_count, ↓augC_i, ↓x_aug, ↓x_par, ↓x_raise, ↓x_callX, ↓x_try, ↓x_subA, ↓x_setN, ↓a_two, ↓x_swIx, ↓x_mkX, ↓x_mk0, ↓x_raise0, ↓a_exB, ↓a_tbl, ↓a_cbl, ↓x_isX, ↓x_xattr, rvC_d, rvC_own, consO_s, isTy_s, isTy_l, mgC_own, walk_l, walk_t, walk_s, toR_d, toR_o, items_l, items_t, ok_s, ok_i, ok_b, ok_n, ok_l, ok_t, okL_n, okL_c, e_ss, e_ii, e_bb, e_ll, e_tt, eL_nn, eL_cc, eL_nc, eL_cn, ty_s, ty_i, ty_l, ty_b, kgC_dK, key_i, key_s, kI_eq, kS_eq, oneR_1, walkE_l, walkE_t, walkE_s, ty_t, twoR_2, side_l, side_t, twoD_2, ow_nil, ow_un, ow_d, m_app, m_ext, m_rev, sline, startC, restE, restC, wipeE, wipeC, plainC, List.getElem?_cons_zero, List.getElem?_cons_succ, List.getD_cons_zero, List.getD_cons_succ, List.set_cons_zero, List.set_cons_succ, List.length_cons, List.length_nil, List.map_cons, List.map_nil, List.replicate_succ, List.replicate_zero, List.cons_append, List.nil_append, Nat.reduceAdd, Nat.reduceMul, Int.reduceAdd, Int.reduceSub, Int.reduceMul, Nat.reduceSub, Nat.reduceLT, Nat.reduceLeDiff, Nat.lt_add_one, Int.reduceNeg, Int.reduceLT, Int.reduceLE, Int.reduceToNat, Int.reducePow, Nat.reducePow, List.flatten_cons, List.flatten_nil, List.append_nil, true_and, and_true, true_or, or_true, eq_self, and_self, decide_true, decide_false, Bool.not_true, Bool.not_false, Bool.not_not, Option.isSome_some, Bool.and_true, Bool.true_and, Bool.and_self, reduceIte, ↓reduceIte, Bool.false_eq_true, ite_self, reduceCtorEq, ne_eq, not_false_eq_true, forall_const, ↓x_gtup, ↓a_repr, ↓x_min1, ↓a_min2S, ↓x_yes, ↓x_ite, x_gnil, walk_l, walk_t, walk_s]
    refine opt_of (exA_eq rfl xlk_one) ?_
    simp -dsimp only [↓opt_some, ↓br_true, ↓br_false, ↓nameC_d, ↓nameC_own, ↓nameC_dK, ↓nameC_dT, ↓x_name, ↓fzC_d, ↓fzC_own, ↓x_fzn, ↓x_fzd, ↓x_fzo, ↓x_rvn, ↓x_rvd, ↓x_rvo, ↓retC_d, ↓retC_own, ↓x_retn, ↓x_retd, ↓x_reto, ↓x_hd, ↓x_ho, ↓x_hn, ↓x_ad, ↓x_ao, ↓x_an, ↓x_set, ↓x_seq, ↓x_next, ↓x_break, ↓x_cont, ↓x_drop, ↓x_ret, ↓x_retN, ↓x_if, ↓x_asg, ↓x_asgG, ↓x_while, ↓x_for, ↓x_2, ↓x_1, ↓x_D, ↓bC_b, ↓x_B, ↓x_and, ↓x_or, ↓x_not, ↓x_andV, ↓x_orV, ↓x_notV, ↓x_tif, ↓x_nil, ↓x_cons, ↓x_tup, ↓x_lst, ↓x_rnil, ↓x_rcons, ↓x_callP, ↓x_rvLc, ↓x_rvLn, ↓x_meth, ↓x_meth0, ↓x_mut, ↓x_mg, ↓x_ms, ↓x_sl, ↓x_on, ↓iC_i, ↓x_os, ↓x_lc, ↓x_any, ↓x_pure, ↓sC_s, ↓x_rev, ↓x_call, ↓x_gn, ↓x_gnil, ↓x_gcons, ↓x_isi, ↓a_ii, ↓a_ss, ↓a_ll, ↓a_tt, ↓a_I, ↓a_neg, ↓a_mul, ↓a_mulL, ↓a_mulS, ↓a_eq, ↓a_ne, ↓a_lt, ↓a_le, ↓a_gt, ↓a_ge, ↓a_ltS, ↓a_leS, ↓a_inS, ↓a_ninS, ↓a_inL, ↓a_ninL, ↓a_inT, ↓a_ninT, ↓a_ixL, ↓a_ixT, ↓a_ixS, ↓a_ixR, ↓a_ixB, ↓a_slL, ↓a_slT, ↓a_slS, ↓a_lenS, ↓a_lenL, ↓a_lenT, ↓a_lenR, ↓a_join, ↓a_ixof, ↓a_ixofL, ↓a_rng1, ↓a_rng2, ↓a_min2, ↓a_max2, ↓a_lstS, ↓a_lstL, ↓a_lstT, ↓a_int, ↓a_intB, ↓a_isN, ↓x_popAt, ↓x_all, ↓x_anyB, ↓a_isB, ↓a_pop, ↓x_dict0, ↓x_aK, ↓x_kg, ↓x_ks, ↓x_dg, ↓x_di, ↓x_dpt, ↓x_enum, ↓a_backL, ↓a_backT, ↓x_never, ↓a_tupL, ↓a_tupT, ↓x_sort, ↓x_sortS, ↓x_sortP, ↓a_slR, ↓x_zip, ↓x_sum, ↓a_count, ↓augC_i, ↓x_aug, ↓x_par, ↓x_raise, ↓x_callX, ↓x_try, ↓x_subA, ↓x_setN, ↓a_two, ↓x_swIx, ↓x_mkX, ↓x_mk0, ↓x_raise0, ↓a_exB, ↓a_tbl, ↓a_cbl, ↓x_isX, ↓x_xattr, rvC_d, rvC_own, consO_s, isTy_s, isTy_l, mgC_own, walk_l, walk_t, walk_s, toR_d, toR_o, items_l, items_t, ok_s, ok_i, ok_b, ok_n, ok_l, ok_t, okL_n, okL_c, e_ss, e_ii, e_bb, e_ll, e_tt, eL_nn, eL_cc, eL_nc, eL_cn, ty_s, ty_i, ty_l, ty_b, kgC_dK, key_i, key_s, kI_eq, kS_eq, oneR_1, walkE_l, walkE_t, walkE_s, ty_t, twoR_2, side_l, side_t, twoD_2, ow_nil, ow_un, ow_d, m_app, m_ext, m_rev, sline, startC, restE, restC, wipeE, wipeC, plainC, List.getElem?_cons_zero, List.getElem?_cons_succ, List.getD_cons_zero, List.getD_cons_succ, List.set_cons_zero, List.set_cons_succ, List.length_cons, List.length_nil, List.map_cons, List.map_nil, List.replicate_succ, List.replicate_zero, List.cons_append, List.nil_append, Nat.reduceAdd, Nat.reduceMul, Int.reduceAdd, Int.reduceSub, Int.reduceMul, Nat.reduceSub, Nat.reduceLT, Nat.reduceLeDiff, Nat.lt_add_one, Int.reduceNeg, Int.reduceLT, Int.reduceLE, Int.reduceToNat, Int.reducePow, Nat.reducePow, List.flatten_cons, List.flatten_nil, List.append_nil, true_and, and_true, true_or, or_true, eq_self, and_self, decide_true, decide_false, Bool.not_true, Bool.not_false, Bool.not_not, Option.isSome_some, Bool.and_true, Bool.true_and, Bool.and_self, reduceIte, ↓reduceIte, Bool.false_eq_true, ite_self, reduceCtorEq, ne_eq, not_false_eq_true, forall_const, ↓x_gtup, ↓a_repr, ↓x_min1, ↓a_min2S, ↓x_yes, ↓x_ite, x_gnil, walk_l, walk_t, walk_s]
    refine opt_of (a := D.exc 1 ["at"] [.int n]) rfl ?_
    simp -dsimp only [↓opt_some, ↓br_true, ↓br_false, ↓nameC_d, ↓nameC_own, ↓nameC_dK, ↓nameC_dT, ↓x_name, ↓fzC_d, ↓fzC_own, ↓x_fzn, ↓x_fzd, ↓x_fzo, ↓x_rvn, ↓x_rvd, ↓x_rvo, ↓retC_d, ↓retC_own, ↓x_retn, ↓x_retd, ↓x_reto, ↓x_hd, ↓x_ho, ↓x_hn, ↓x_ad, ↓x_ao, ↓x_an, ↓x_set, ↓x_seq, ↓x_next, ↓x_break, ↓x_cont, ↓x_drop, ↓x_ret, ↓x_retN, ↓x_if, ↓x_asg, ↓x_asgG, ↓x_while, ↓x_for, ↓x_2, ↓x_1, ↓x_D, ↓bC_b, ↓x_B, ↓x_and, ↓x_or, ↓x_not, ↓x_andV, ↓x_orV, ↓x_notV, ↓x_tif, ↓x_nil, ↓x_cons, ↓x_tup, ↓x_lst, ↓x_rnil, ↓x_rcons, ↓x_callP, ↓x_rvLc, ↓x_rvLn, ↓x_meth, ↓x_meth0, ↓x_mut, ↓x_mg, ↓x_ms, ↓x_sl, ↓x_on, ↓iC_i, ↓x_os, ↓x_lc, ↓x_any, ↓x_pure, ↓sC_s, ↓x_rev, ↓x_call, ↓x_gn, ↓x_gnil, ↓x_gcons, ↓x_isi, ↓a_ii, ↓a_ss, ↓a_ll, ↓a_tt, ↓a_I, ↓a_neg, ↓a_mul, ↓a_mulL, ↓a_mulS, ↓a_eq, ↓a_ne, ↓a_lt, ↓a_le, ↓a_gt, ↓a_ge, ↓a_ltS, ↓a_leS, ↓a_inS, ↓a_ninS, ↓a_inL, ↓a_ninL, ↓a_inT, ↓a_ninT, ↓a_ixL, ↓a_ixT, ↓a_ixS, ↓a_ixR, ↓a_ixB, ↓a_slL, ↓a_slT, ↓a_slS, ↓a_lenS, ↓a_lenL, ↓a_lenT, ↓a_lenR, ↓a_join, ↓a_ixof, ↓a_ixofL, ↓a_rng1, ↓a_rng2, ↓a_min2, ↓a_max2, ↓a_lstS, ↓a_lstL, ↓a_lstT, ↓a_int, ↓a_intB, ↓a_isN, ↓x_popAt, ↓x_all, ↓x_anyB, ↓a_isB, ↓a_pop, ↓x_dict0, ↓x_aK, ↓x_kg, ↓x_ks, ↓x_dg, ↓x_di, ↓x_dpt, ↓x_enum, ↓a_backL, ↓a_backT, ↓x_never, ↓a_tupL, ↓a_tupT, ↓x_sort, ↓x_sortS, ↓x_sortP, ↓a_slR, ↓x_zip, ↓x_sum, ↓a_count, ↓augC_i, ↓x_aug, ↓x_par, ↓x_raise, ↓x_callX, ↓x_try, ↓x_subA, ↓x_setN, ↓a_two, ↓x_swIx, ↓x_mkX, ↓x_mk0, ↓x_raise0, ↓a_exB, ↓a_tbl, ↓a_cbl, ↓x_isX, ↓x_xattr, rvC_d, rvC_own, consO_s, isTy_s, isTy_l, mgC_own, walk_l, walk_t, walk_s, toR_d, toR_o, items_l, items_t, ok_s, ok_i, ok_b, ok_n, ok_l, ok_t, okL_n, okL_c, e_ss, e_ii, e_bb, e_ll, e_tt, eL_nn, eL_cc, eL_nc, eL_cn, ty_s, ty_i, ty_l, ty_b, kgC_dK, key_i, key_s, kI_eq, kS_eq, oneR_1, walkE_l, walkE_t, walkE_s, ty_t, twoR_2, side_l, side_t, twoD_2, ow_nil, ow_un, ow_d, m_app, m_ext, m_rev, sline, startC, restE, restC, wipeE, wipeC, plainC, List.getElem?_cons_zero, List.getElem?_cons_succ, List.getD_cons_zero, List.getD_cons_succ, List.set_cons_zero, List.set_cons_succ, List.length_cons, List.length_nil, List.map_cons, List.map_nil, List.replicate_succ, List.replicate_zero, List.cons_append, List.nil_append, Nat.reduceAdd, Nat.reduceMul, Int.reduceAdd, Int.reduceSub, Int.reduceMul, Nat.reduceSub, Nat.reduceLT, Nat.reduceLeDiff, Nat.lt_add_one, Int.reduceNeg, Int.reduceLT, Int.reduceLE, Int.reduceToNat, Int.reducePow, Nat.reducePow, List.flatten_cons, List.flatten_nil, List.append_nil, true_and, and_true, true_or, or_true, eq_self, and_self, decide_true, decide_false, Bool.not_true, Bool.not_false, Bool.not_not, Option.isSome_some, Bool.and_true, Bool.true_and, Bool.and_self, reduceIte, ↓reduceIte, Bool.false_eq_true, ite_self, reduceCtorEq, ne_eq, not_false_eq_true, forall_const, ↓x_gtup, ↓a_repr, ↓x_min1, ↓a_min2S, ↓x_yes, ↓x_ite, x_gnil, walk_l, walk_t, walk_s]
    refine opt_of (exA_eq rfl xlk_one) ?_
    simp -dsimp only [↓opt_some, ↓br_true, ↓br_false, ↓nameC_d, ↓nameC_own, ↓nameC_dK, ↓nameC_dT, ↓x_name, ↓fzC_d, ↓fzC_own, ↓x_fzn, ↓x_fzd, ↓x_fzo, ↓x_rvn, ↓x_rvd, ↓x_rvo, ↓retC_d, ↓retC_own, ↓x_retn, ↓x_retd, ↓x_reto, ↓x_hd, ↓x_ho, ↓x_hn, ↓x_ad, ↓x_ao, ↓x_an, ↓x_set, ↓x_seq, ↓x_next, ↓x_break, ↓x_cont, ↓x_drop, ↓x_ret, ↓x_retN, ↓x_if, ↓x_asg, ↓x_asgG, ↓x_while, ↓x_for, ↓x_2, ↓x_1, ↓x_D, ↓bC_b, ↓x_B, ↓x_and, ↓x_or, ↓x_not, ↓x_andV, ↓x_orV, ↓x_notV, ↓x_tif, ↓x_nil, ↓x_cons, ↓x_tup, ↓x_lst, ↓x_rnil, ↓x_rcons, ↓x_callP, ↓x_rvLc, ↓x_rvLn, ↓x_meth, ↓x_meth0, ↓x_mut, ↓x_mg, ↓x_ms, ↓x_sl, ↓x_on, ↓iC_i, ↓x_os, ↓x_lc, ↓x_any, ↓x_pure, ↓sC_s, ↓x_rev, ↓x_call, ↓x_gn, ↓x_gnil, ↓x_gcons, ↓x_isi, ↓a_ii, ↓a_ss, ↓a_ll, ↓a_tt, ↓a_I, ↓a_neg, ↓a_mul, ↓a_mulL, ↓a_mulS, ↓a_eq, ↓a_ne, ↓a_lt, ↓a_le, ↓a_gt, ↓a_ge, ↓a_ltS, ↓a_leS, ↓a_inS, ↓a_ninS, ↓a_inL, ↓a_ninL, ↓a_inT, ↓a_ninT, ↓a_ixL, ↓a_ixT, ↓a_ixS, ↓a_ixR, ↓a_ixB, ↓a_slL, ↓a_slT, ↓a_slS, ↓a_lenS, ↓a_lenL, ↓a_lenT, ↓a_lenR, ↓a_join, ↓a_ixof, ↓a_ixofL, ↓a_rng1, ↓a_rng2, ↓a_min2, ↓a_max2, ↓a_lstS, ↓a_lstL, ↓a_lstT, ↓a_int, ↓a_intB, ↓a_isN, ↓x_popAt, ↓x_all, ↓x_anyB, ↓a_isB, ↓a_pop, ↓x_dict0, ↓x_aK, ↓x_kg, ↓x_ks, ↓x_dg, ↓x_di, ↓x_dpt, ↓x_enum, ↓a_backL, ↓a_backT, ↓x_never, ↓a_tupL, ↓a_tupT, ↓x_sort, ↓x_sortS, ↓x_sortP, ↓a_slR, ↓x_zip, ↓x_sum, ↓a_count, ↓augC_i, ↓x_aug, ↓x_par, ↓x_raise, ↓x_callX, ↓x_try, ↓x_subA, ↓x_setN, ↓a_two, ↓x_swIx, ↓x_mkX, ↓x_mk0, ↓x_raise0, ↓a_exB, ↓a_tbl, ↓a_cbl, ↓x_isX, ↓x_xattr, rvC_d, rvC_own, consO_s, isTy_s, isTy_l, mgC_own, walk_l, walk_t, walk_s, toR_d, toR_o, items_l, items_t, ok_s, ok_i, ok_b, ok_n, ok_l, ok_t, okL_n, okL_c, e_ss, e_ii, e_bb, e_ll, e_tt, eL_nn, eL_cc, eL_nc, eL_cn, ty_s, ty_i, ty_l, ty_b, kgC_dK, key_i, key_s, kI_eq, kS_eq, oneR_1, walkE_l, walkE_t, walkE_s, ty_t, twoR_2, side_l, side_t, twoD_2, ow_nil, ow_un, ow_d, m_app, m_ext, m_rev, sline, startC, restE, restC, wipeE, wipeC, plainC, List.getElem?_cons_zero, List.getElem?_cons_succ, List.getD_cons_zero, List.getD_cons_succ, List.set_cons_zero, List.set_cons_succ, List.length_cons, List.length_nil, List.map_cons, List.map_nil, List.replicate_succ, List.replicate_zero, List.cons_append, List.nil_append, Nat.reduceAdd, Nat.reduceMul, Int.reduceAdd, Int.reduceSub, Int.reduceMul, Nat.reduceSub, Nat.reduceLT, Nat.reduceLeDiff, Nat.lt_add_one, Int.reduceNeg, Int.reduceLT, Int.reduceLE, Int.reduceToNat, Int.reducePow, Nat.reducePow, List.flatten_cons, List.flatten_nil, List.append_nil, true_and, and_true, true_or, or_true, eq_self, and_self, decide_true, decide_false, Bool.not_true, Bool.not_false, Bool.not_not, Option.isSome_some, Bool.and_true, Bool.true_and, Bool.and_self, reduceIte, ↓reduceIte, Bool.false_eq_true, ite_self, reduceCtorEq, ne_eq, not_false_eq_true, forall_const, ↓x_gtup, ↓a_repr, ↓x_min1, ↓a_min2S, ↓x_yes, ↓x_ite, x_gnil, walk_l, walk_t, walk_s]
    refine opt_of (a := D.exc 2 ["word", "at"] [.str w, .int n]) rfl ?_
    simp -dsimp only [↓opt_some, ↓br_true, ↓br_false, ↓nameC_d, ↓nameC_own, ↓nameC_dK, ↓nameC_dT, ↓x_name, ↓fzC_d, ↓fzC_own, ↓x_fzn, ↓x_fzd, ↓x_fzo, ↓x_rvn, ↓x_rvd, ↓x_rvo, ↓retC_d, ↓retC_own, ↓x_retn, ↓x_retd, ↓x_reto, ↓x_hd, ↓x_ho, ↓x_hn, ↓x_ad, ↓x_ao, ↓x_an, ↓x_set, ↓x_seq, ↓x_next, ↓x_break, ↓x_cont, ↓x_drop, ↓x_ret, ↓x_retN, ↓x_if, ↓x_asg, ↓x_asgG, ↓x_while, ↓x_for, ↓x_2, ↓x_1, ↓x_D, ↓bC_b, ↓x_B, ↓x_and, ↓x_or, ↓x_not, ↓x_andV, ↓x_orV, ↓x_notV, ↓x_tif, ↓x_nil, ↓x_cons, ↓x_tup, ↓x_lst, ↓x_rnil, ↓x_rcons, ↓x_callP, ↓x_rvLc, ↓x_rvLn, ↓x_meth, ↓x_meth0, ↓x_mut, ↓x_mg, ↓x_ms, ↓x_sl, ↓x_on, ↓iC_i, ↓x_os, ↓x_lc, ↓x_any, ↓x_pure, ↓sC_s, ↓x_rev, ↓x_call, ↓x_gn, ↓x_gnil, ↓x_gcons, ↓x_isi, ↓a_ii, ↓a_ss, ↓a_ll, ↓a_tt, ↓a_I, ↓a_neg, ↓a_mul, ↓a_mulL, ↓a_mulS, ↓a_eq, ↓a_ne, ↓a_lt, ↓a_le, ↓a_gt, ↓a_ge, ↓a_ltS, ↓a_leS, ↓a_inS, ↓a_ninS, ↓a_inL, ↓a_ninL, ↓a_inT, ↓a_ninT, ↓a_ixL, ↓a_ixT, ↓a_ixS, ↓a_ixR, ↓a_ixB, ↓a_slL, ↓a_slT, ↓a_slS, ↓a_lenS, ↓a_lenL, ↓a_lenT, ↓a_lenR, ↓a_join, ↓a_ixof, ↓a_ixofL, ↓a_rng1, ↓a_rng2, ↓a_min2, ↓a_max2, ↓a_lstS, ↓a_lstL, ↓a_lstT, ↓a_int, ↓a_intB, ↓a_isN, ↓x_popAt, ↓x_all, ↓x_anyB, ↓a_isB, ↓a_pop, ↓x_dict0, ↓x_aK, ↓x_kg, ↓x_ks, ↓x_dg, ↓x_di, ↓x_dpt, ↓x_enum, ↓a_backL, ↓a_backT, ↓x_never, ↓a_tupL, ↓a_tupT, ↓x_sort, ↓x_sortS, ↓x_sortP, ↓a_slR, ↓x_zip, ↓x_sum, ↓a_count, ↓augC_i, ↓x_aug, ↓x_par, ↓x_raise, ↓x_callX, ↓x_try, ↓x_subA, ↓x_setN, ↓a_two, ↓x_swIx, ↓x_mkX, ↓x_mk0, ↓x_raise0, ↓a_exB, ↓a_tbl, ↓a_cbl, ↓x_isX, ↓x_xattr, rvC_d, rvC_own, consO_s, isTy_s, isTy_l, mgC_own, walk_l, walk_t, walk_s, toR_d, toR_o, items_l, items_t, ok_s, ok_i, ok_b, ok_n, ok_l, ok_t, okL_n, okL_c, e_ss, e_ii, e_bb, e_ll, e_tt, eL_nn, eL_cc, eL_nc, eL_cn, ty_s, ty_i, ty_l, ty_b, kgC_dK, key_i, key_s, kI_eq, kS_eq, oneR_1, walkE_l, walkE_t, walkE_s, ty_t, twoR_2, side_l, side_t, twoD_2, ow_nil, ow_un, ow_d, m_app, m_ext, m_rev, sline, startC, restE, restC, wipeE, wipeC, plainC, List.getElem?_cons_zero, List.getElem?_cons_succ, List.getD_cons_zero, List.getD_cons_succ, List.set_cons_zero, List.set_cons_succ, List.length_cons, List.length_nil, List.map_cons, List.map_nil, List.replicate_succ, List.replicate_zero, List.cons_append, List.nil_append, Nat.reduceAdd, Nat.reduceMul, Int.reduceAdd, Int.reduceSub, Int.reduceMul, Nat.reduceSub, Nat.reduceLT, Nat.reduceLeDiff, Nat.lt_add_one, Int.reduceNeg, Int.reduceLT, Int.reduceLE, Int.reduceToNat, Int.reducePow, Nat.reducePow, List.flatten_cons, List.flatten_nil, List.append_nil, true_and, and_true, true_or, or_true, eq_self, and_self, decide_true, decide_false, Bool.not_true, Bool.not_false, Bool.not_not, Option.isSome_some, Bool.and_true, Bool.true_and, Bool.and_self, reduceIte, ↓reduceIte, Bool.false_eq_true, ite_self, reduceCtorEq, ne_eq, not_false_eq_true, forall_const, ↓x_gtup, ↓a_repr, ↓x_min1, ↓a_min2S, ↓x_yes, ↓x_ite, x_gnil, walk_l, walk_t, walk_s]
    refine opt_of (exA_eq rfl (xlk_fst (by decide))) ?_
    simp -dsimp only [↓opt_some, ↓br_true, ↓br_false, ↓nameC_d, ↓nameC_own, ↓nameC_dK, ↓nameC_dT, ↓x_name, ↓fzC_d, ↓fzC_own, ↓x_fzn, ↓x_fzd, ↓x_fzo, ↓x_rvn, ↓x_rvd, ↓x_rvo, ↓retC_d, ↓retC_own, ↓x_retn, ↓x_retd, ↓x_reto, ↓x_hd, ↓x_ho, ↓x_hn, ↓x_ad, ↓x_ao, ↓x_an, ↓x_set, ↓x_seq, ↓x_next, ↓x_break, ↓x_cont, ↓x_drop, ↓x_ret, ↓x_retN, ↓x_if, ↓x_asg, ↓x_asgG, ↓x_while, ↓x_for, ↓x_2, ↓x_1, ↓x_D, ↓bC_b, ↓x_B, ↓x_and, ↓x_or, ↓x_not, ↓x_andV, ↓x_orV, ↓x_notV, ↓x_tif, ↓x_nil, ↓x_cons, ↓x_tup, ↓x_lst, ↓x_rnil, ↓x_rcons, ↓x_callP, ↓x_rvLc, ↓x_rvLn, ↓x_meth, ↓x_meth0, ↓x_mut, ↓x_mg, ↓x_ms, ↓x_sl, ↓x_on, ↓iC_i, ↓x_os, ↓x_lc, ↓x_any, ↓x_pure, ↓sC_s, ↓x_rev, ↓x_call, ↓x_gn, ↓x_gnil, ↓x_gcons, ↓x_isi, ↓a_ii, ↓a_ss, ↓a_ll, ↓a_tt, ↓a_I, ↓a_neg, ↓a_mul, ↓a_mulL, ↓a_mulS, ↓a_eq, ↓a_ne, ↓a_lt, ↓a_le, ↓a_gt, ↓a_ge, ↓a_ltS, ↓a_leS, ↓a_inS, ↓a_ninS, ↓a_inL, ↓a_ninL, ↓a_inT, ↓a_ninT, ↓a_ixL, ↓a_ixT, ↓a_ixS, ↓a_ixR, ↓a_ixB, ↓a_slL, ↓a_slT, ↓a_slS, ↓a_lenS, ↓a_lenL, ↓a_lenT, ↓a_lenR, ↓a_join, ↓a_ixof, ↓a_ixofL, ↓a_rng1, ↓a_rng2, ↓a_min2, ↓a_max2, ↓a_lstS, ↓a_lstL, ↓a_lstT, ↓a_int, ↓a_intB, ↓a_isN, ↓x_popAt, ↓x_all, ↓x_anyB, ↓a_isB, ↓a_pop, ↓x_dict0, ↓x_aK, ↓x_kg, ↓x_ks, ↓x_dg, ↓x_di, ↓x_dpt, ↓x_enum, ↓a_backL, ↓a_backT, ↓x_never, ↓a_tupL, ↓a_tupT, ↓x_sort, ↓x_sortS, ↓x_sortP, ↓a_slR, ↓x_zip, ↓x_sum, ↓a_count, ↓augC_i, ↓x_aug, ↓x_par, ↓x_raise, ↓x_callX, ↓x_try, ↓x_subA, ↓x_setN, ↓a_two, ↓x_swIx, ↓x_mkX, ↓x_mk0, ↓x_raise0, ↓a_exB, ↓a_tbl, ↓a_cbl, ↓x_isX, ↓x_xattr, rvC_d, rvC_own, consO_s, isTy_s, isTy_l, mgC_own, walk_l, walk_t, walk_s, toR_d, toR_o, items_l, items_t, ok_s, ok_i, ok_b, ok_n, ok_l, ok_t, okL_n, okL_c, e_ss, e_ii, e_bb, e_ll, e_tt, eL_nn, eL_cc, eL_nc, eL_cn, ty_s, ty_i, ty_l, ty_b, kgC_dK, key_i, key_s, kI_eq, kS_eq, oneR_1, walkE_l, walkE_t, walkE_s, ty_t, twoR_2, side_l, side_t, twoD_2, ow_nil, ow_un, ow_d, m_app, m_ext, m_rev, sline, startC, restE, restC, wipeE, wipeC, plainC, List.getElem?_cons_zero, List.getElem?_cons_succ, List.getD_cons_zero, List.getD_cons_succ, List.set_cons_zero, List.set_cons_succ, List.length_cons, List.length_nil, List.map_cons, List.map_nil, List.replicate_succ, List.replicate_zero, List.cons_append, List.nil_append, Nat.reduceAdd, Nat.reduceMul, Int.reduceAdd, Int.reduceSub, Int.reduceMul, Nat.reduceSub, Nat.reduceLT, Nat.reduceLeDiff, Nat.lt_add_one, Int.reduceNeg, Int.reduceLT, Int.reduceLE, Int.reduceToNat, Int.reducePow, Nat.reducePow, List.flatten_cons, List.flatten_nil, List.append_nil, true_and, and_true, true_or, or_true, eq_self, and_self, decide_true, decide_false, Bool.not_true, Bool.not_false, Bool.not_not, Option.isSome_some, Bool.and_true, Bool.true_and, Bool.and_self, reduceIte, ↓reduceIte, Bool.false_eq_true, ite_self, reduceCtorEq, ne_eq, not_false_eq_true, forall_const, ↓x_gtup, ↓a_repr, ↓x_min1, ↓a_min2S, ↓x_yes, ↓x_ite, x_gnil, walk_l, walk_t, walk_s]
    refine opt_of (a := D.exc 2 ["word", "at"] [.str w, .int n]) rfl ?_
    simp -dsimp only [↓opt_some, ↓br_true, ↓br_false, ↓nameC_d, ↓nameC_own, ↓nameC_dK, ↓nameC_dT, ↓x_name, ↓fzC_d, ↓fzC_own, ↓x_fzn, ↓x_fzd, ↓x_fzo, ↓x_rvn, ↓x_rvd, ↓x_rvo, ↓retC_d, ↓retC_own, ↓x_retn, ↓x_retd, ↓x_reto, ↓x_hd, ↓x_ho, ↓x_hn, ↓x_ad, ↓x_ao, ↓x_an, ↓x_set, ↓x_seq, ↓x_next, ↓x_break, ↓x_cont, ↓x_drop, ↓x_ret, ↓x_retN, ↓x_if, ↓x_asg, ↓x_asgG, ↓x_while, ↓x_for, ↓x_2, ↓x_1, ↓x_D, ↓bC_b, ↓x_B, ↓x_and, ↓x_or, ↓x_not, ↓x_andV, ↓x_orV, ↓x_notV, ↓x_tif, ↓x_nil, ↓x_cons, ↓x_tup, ↓x_lst, ↓x_rnil, ↓x_rcons, ↓x_callP, ↓x_rvLc, ↓x_rvLn, ↓x_meth, ↓x_meth0, ↓x_mut, ↓x_mg, ↓x_ms, ↓x_sl, ↓x_on, ↓iC_i, ↓x_os, ↓x_lc, ↓x_any, ↓x_pure, ↓sC_s, ↓x_rev, ↓x_call, ↓x_gn, ↓x_gnil, ↓x_gcons, ↓x_isi, ↓a_ii, ↓a_ss, ↓a_ll, ↓a_tt, ↓a_I, ↓a_neg, ↓a_mul, ↓a_mulL, ↓a_mulS, ↓a_eq, ↓a_ne, ↓a_lt, ↓a_le, ↓a_gt, ↓a_ge, ↓a_ltS, ↓a_leS, ↓a_inS, ↓a_ninS, ↓a_inL, ↓a_ninL, ↓a_inT, ↓a_ninT, ↓a_ixL, ↓a_ixT, ↓a_ixS, ↓a_ixR, ↓a_ixB, ↓a_slL, ↓a_slT, ↓a_slS, ↓a_lenS, ↓a_lenL, ↓a_lenT, ↓a_lenR, ↓a_join, ↓a_ixof, ↓a_ixofL, ↓a_rng1, ↓a_rng2, ↓a_min2, ↓a_max2, ↓a_lstS, ↓a_lstL, ↓a_lstT, ↓a_int, ↓a_intB, ↓a_isN, ↓x_popAt, ↓x_all, ↓x_anyB, ↓a_isB, ↓a_pop, ↓x_dict0, ↓x_aK, ↓x_kg, ↓x_ks, ↓x_dg, ↓x_di, ↓x_dpt, ↓x_enum, ↓a_backL, ↓a_backT, ↓x_never, ↓a_tupL, ↓a_tupT, ↓x_sort, ↓x_sortS, ↓x_sortP, ↓a_slR, ↓x_zip, ↓x_sum, ↓a_count, ↓augC_i, ↓x_aug, ↓x_par, ↓x_raise, ↓x_callX, ↓x_try, ↓x_subA, ↓x_setN, ↓a_two, ↓x_swIx, ↓x_mkX, ↓x_mk0, ↓x_raise0, ↓a_exB, ↓a_tbl, ↓a_cbl, ↓x_isX, ↓x_xattr, rvC_d, rvC_own, consO_s, isTy_s, isTy_l, mgC_own, walk_l, walk_t, walk_s, toR_d, toR_o, items_l, items_t, ok_s, ok_i, ok_b, ok_n, ok_l, ok_t, okL_n, okL_c, e_ss, e_ii, e_bb, e_ll, e_tt, eL_nn, eL_cc, eL_nc, eL_cn, ty_s, ty_i, ty_l, ty_b, kgC_dK, key_i, key_s, kI_eq, kS_eq, oneR_1, walkE_l, walkE_t, walkE_s, ty_t, twoR_2, side_l, side_t, twoD_2, ow_nil, ow_un, ow_d, m_app, m_ext, m_rev, sline, startC, restE, restC, wipeE, wipeC, plainC, List.getElem?_cons_zero, List.getElem?_cons_succ, List.getD_cons_zero, List.getD_cons_succ, List.set_cons_zero, List.set_cons_succ, List.length_cons, List.length_nil, List.map_cons, List.map_nil, List.replicate_succ, List.replicate_zero, List.cons_append, List.nil_append, Nat.reduceAdd, Nat.reduceMul, Int.reduceAdd, Int.reduceSub, Int.reduceMul, Nat.reduceSub, Nat.reduceLT, Nat.reduceLeDiff, Nat.lt_add_one, Int.reduceNeg, Int.reduceLT, Int.reduceLE, Int.reduceToNat, Int.reducePow, Nat.reducePow, List.flatten_cons, List.flatten_nil, List.append_nil, true_and, and_true, true_or, or_true, eq_self, and_self, decide_true, decide_false, Bool.not_true, Bool.not_false, Bool.not_not, Option.isSome_some, Bool.and_true, Bool.true_and, Bool.and_self, reduceIte, ↓reduceIte, Bool.false_eq_true, ite_self, reduceCtorEq, ne_eq, not_false_eq_true, forall_const, ↓x_gtup, ↓a_repr, ↓x_min1, ↓a_min2S, ↓x_yes, ↓x_ite, x_gnil, walk_l, walk_t, walk_s]
    refine opt_of (exA_eq rfl xlk_snd) ?_
    simp -dsimp only [↓opt_some, ↓br_true, ↓br_false, ↓nameC_d, ↓nameC_own, ↓nameC_dK, ↓nameC_dT, ↓x_name, ↓fzC_d, ↓fzC_own, ↓x_fzn, ↓x_fzd, ↓x_fzo, ↓x_rvn, ↓x_rvd, ↓x_rvo, ↓retC_d, ↓retC_own, ↓x_retn, ↓x_retd, ↓x_reto, ↓x_hd, ↓x_ho, ↓x_hn, ↓x_ad, ↓x_ao, ↓x_an, ↓x_set, ↓x_seq, ↓x_next, ↓x_break, ↓x_cont, ↓x_drop, ↓x_ret, ↓x_retN, ↓x_if, ↓x_asg, ↓x_asgG, ↓x_while, ↓x_for, ↓x_2, ↓x_1, ↓x_D, ↓bC_b, ↓x_B, ↓x_and, ↓x_or, ↓x_not, ↓x_andV, ↓x_orV, ↓x_notV, ↓x_tif, ↓x_nil, ↓x_cons, ↓x_tup, ↓x_lst, ↓x_rnil, ↓x_rcons, ↓x_callP, ↓x_rvLc, ↓x_rvLn, ↓x_meth, ↓x_meth0, ↓x_mut, ↓x_mg, ↓x_ms, ↓x_sl, ↓x_on, ↓iC_i, ↓x_os, ↓x_lc, ↓x_any, ↓x_pure, ↓sC_s, ↓x_rev, ↓x_call, ↓x_gn, ↓x_gnil, ↓x_gcons, ↓x_isi, ↓a_ii, ↓a_ss, ↓a_ll, ↓a_tt, ↓a_I, ↓a_neg, ↓a_mul, ↓a_mulL, ↓a_mulS, ↓a_eq, ↓a_ne, ↓a_lt, ↓a_le, ↓a_gt, ↓a_ge, ↓a_ltS, ↓a_leS, ↓a_inS, ↓a_ninS, ↓a_inL, ↓a_ninL, ↓a_inT, ↓a_ninT, ↓a_ixL, ↓a_ixT, ↓a_ixS, ↓a_ixR, ↓a_ixB, ↓a_slL, ↓a_slT, ↓a_slS, ↓a_lenS, ↓a_lenL, ↓a_lenT, ↓a_lenR, ↓a_join, ↓a_ixof, ↓a_ixofL, ↓a_rng1, ↓a_rng2, ↓a_min2, ↓a_max2, ↓a_lstS, ↓a_lstL, ↓a_lstT, ↓a_int, ↓a_intB, ↓a_isN, ↓x_popAt, ↓x_all, ↓x_anyB, ↓a_isB, ↓a_pop, ↓x_dict0, ↓x_aK, ↓x_kg, ↓x_ks, ↓x_dg, ↓x_di, ↓x_dpt, ↓x_enum, ↓a_backL, ↓a_backT, ↓x_never, ↓a_tupL, ↓a_tupT, ↓x_sort, ↓x_sortS, ↓x_sortP, ↓a_slR, ↓x_zip, ↓x_sum, ↓a_count, ↓augC_i, ↓x_aug, ↓x_par, ↓x_raise, ↓x_callX, ↓x_try, ↓x_subA, ↓x_setN, ↓a_two, ↓x_swIx, ↓x_mkX, ↓x_mk0, ↓x_raise0, ↓a_exB, ↓a_tbl, ↓a_cbl, ↓x_isX, ↓x_xattr, rvC_d, rvC_own, consO_s, isTy_s, isTy_l, mgC_own, walk_l, walk_t, walk_s, toR_d, toR_o, items_l, items_t, ok_s, ok_i, ok_b, ok_n, ok_l, ok_t, okL_n, okL_c, e_ss, e_ii, e_bb, e_ll, e_tt, eL_nn, eL_cc, eL_nc, eL_cn, ty_s, ty_i, ty_l, ty_b, kgC_dK, key_i, key_s, kI_eq, kS_eq, oneR_1, walkE_l, walkE_t, walkE_s, ty_t, twoR_2, side_l, side_t, twoD_2, ow_nil, ow_un, ow_d, m_app, m_ext, m_rev, sline, startC, restE, restC, wipeE, wipeC, plainC, List.getElem?_cons_zero, List.getElem?_cons_succ, List.getD_cons_zero, List.getD_cons_succ, List.set_cons_zero, List.set_cons_succ, List.length_cons, List.length_nil, List.map_cons, List.map_nil, List.replicate_succ, List.replicate_zero, List.cons_append, List.nil_append, Nat.reduceAdd, Nat.reduceMul, Int.reduceAdd, Int.reduceSub, Int.reduceMul, Nat.reduceSub, Nat.reduceLT, Nat.reduceLeDiff, Nat.lt_add_one, Int.reduceNeg, Int.reduceLT, Int.reduceLE, Int.reduceToNat, Int.reducePow, Nat.reducePow, List.flatten_cons, List.flatten_nil, List.append_nil, true_and, and_true, true_or, or_true, eq_self, and_self, decide_true, decide_false, Bool.not_true, Bool.not_false, Bool.not_not, Option.isSome_some, Bool.and_true, Bool.true_and, Bool.and_self, reduceIte, ↓reduceIte, Bool.false_eq_true, ite_self, reduceCtorEq, ne_eq, not_false_eq_true, forall_const, ↓x_gtup, ↓a_repr, ↓x_min1, ↓a_min2S, ↓x_yes, ↓x_ite, x_gnil, walk_l, walk_t, walk_s]
    refine opt_of (a := D.exc 3 ["row"] [.int n]) rfl ?_
    simp -dsimp only [↓opt_some, ↓br_true, ↓br_false, ↓nameC_d, ↓nameC_own, ↓nameC_dK, ↓nameC_dT, ↓x_name, ↓fzC_d, ↓fzC_own, ↓x_fzn, ↓x_fzd, ↓x_fzo, ↓x_rvn, ↓x_rvd, ↓x_rvo, ↓retC_d, ↓retC_own, ↓x_retn, ↓x_retd, ↓x_reto, ↓x_hd, ↓x_ho, ↓x_hn, ↓x_ad, ↓x_ao, ↓x_an, ↓x_set, ↓x_seq, ↓x_next, ↓x_break, ↓x_cont, ↓x_drop, ↓x_ret, ↓x_retN, ↓x_if, ↓x_asg, ↓x_asgG, ↓x_while, ↓x_for, ↓x_2, ↓x_1, ↓x_D, ↓bC_b, ↓x_B, ↓x_and, ↓x_or, ↓x_not, ↓x_andV, ↓x_orV, ↓x_notV, ↓x_tif, ↓x_nil, ↓x_cons, ↓x_tup, ↓x_lst, ↓x_rnil, ↓x_rcons, ↓x_callP, ↓x_rvLc, ↓x_rvLn, ↓x_meth, ↓x_meth0, ↓x_mut, ↓x_mg, ↓x_ms, ↓x_sl, ↓x_on, ↓iC_i, ↓x_os, ↓x_lc, ↓x_any, ↓x_pure, ↓sC_s, ↓x_rev, ↓x_call, ↓x_gn, ↓x_gnil, ↓x_gcons, ↓x_isi, ↓a_ii, ↓a_ss, ↓a_ll, ↓a_tt, ↓a_I, ↓a_neg, ↓a_mul, ↓a_mulL, ↓a_mulS, ↓a_eq, ↓a_ne, ↓a_lt, ↓a_le, ↓a_gt, ↓a_ge, ↓a_ltS, ↓a_leS, ↓a_inS, ↓a_ninS, ↓a_inL, ↓a_ninL, ↓a_inT, ↓a_ninT, ↓a_ixL, ↓a_ixT, ↓a_ixS, ↓a_ixR, ↓a_ixB, ↓a_slL, ↓a_slT, ↓a_slS, ↓a_lenS, ↓a_lenL, ↓a_lenT, ↓a_lenR, ↓a_join, ↓a_ixof, ↓a_ixofL, ↓a_rng1, ↓a_rng2, ↓a_min2, ↓a_max2, ↓a_lstS, ↓a_lstL, ↓a_lstT, ↓a_int, ↓a_intB, ↓a_isN, ↓x_popAt, ↓x_all, ↓x_anyB, ↓a_isB, ↓a_pop, ↓x_dict0, ↓x_aK, ↓x_kg, ↓x_ks, ↓x_dg, ↓x_di, ↓x_dpt, ↓x_enum, ↓a_backL, ↓a_backT, ↓x_never, ↓a_tupL, ↓a_tupT, ↓x_sort, ↓x_sortS, ↓x_sortP, ↓a_slR, ↓x_zip, ↓x_sum, ↓a_count, ↓augC_i, ↓x_aug, ↓x_par, ↓x_raise, ↓x_callX, ↓x_try, ↓x_subA, ↓x_setN, ↓a_two, ↓x_swIx, ↓x_mkX, ↓x_mk0, ↓x_raise0, ↓a_exB, ↓a_tbl, ↓a_cbl, ↓x_isX, ↓x_xattr, rvC_d, rvC_own, consO_s, isTy_s, isTy_l, mgC_own, walk_l, walk_t, walk_s, toR_d, toR_o, items_l, items_t, ok_s, ok_i, ok_b, ok_n, ok_l, ok_t, okL_n, okL_c, e_ss, e_ii, e_bb, e_ll, e_tt, eL_nn, eL_cc, eL_nc, eL_cn, ty_s, ty_i, ty_l, ty_b, kgC_dK, key_i, key_s, kI_eq, kS_eq, oneR_1, walkE_l, walkE_t, walkE_s, ty_t, twoR_2, side_l, side_t, twoD_2, ow_nil, ow_un, ow_d, m_app, m_ext, m_rev, sline, startC, restE, restC, wipeE, wipeC, plainC, List.getElem?_cons_zero, List.getElem?_cons_succ, List.getD_cons_zero, List.getD_cons_succ, List.set_cons_zero, List.set_cons_succ, List.length_cons, List.length_nil, List.map_cons, List.map_nil, List.replicate_succ, List.replicate_zero, List.cons_append, List.nil_append, Nat.reduceAdd, Nat.reduceMul, Int.reduceAdd, Int.reduceSub, Int.reduceMul, Nat.reduceSub, Nat.reduceLT, Nat.reduceLeDiff, Nat.lt_add_one, Int.reduceNeg, Int.reduceLT, Int.reduceLE, Int.reduceToNat, Int.reducePow, Nat.reducePow, List.flatten_cons, List.flatten_nil, List.append_nil, true_and, and_true, true_or, or_true, eq_self, and_self, decide_true, decide_false, Bool.not_true, Bool.not_false, Bool.not_not, Option.isSome_some, Bool.and_true, Bool.true_and, Bool.and_self, reduceIte, ↓reduceIte, Bool.false_eq_true, ite_self, reduceCtorEq, ne_eq, not_false_eq_true, forall_const, ↓x_gtup, ↓a_repr, ↓x_min1, ↓a_min2S, ↓x_yes, ↓x_ite, x_gnil, walk_l, walk_t, walk_s]
    refine opt_of (exA_eq rfl xlk_one) ?_
    simp -dsimp only [↓opt_some, ↓br_true, ↓br_false, ↓nameC_d, ↓nameC_own, ↓nameC_dK, ↓nameC_dT, ↓x_name, ↓fzC_d, ↓fzC_own, ↓x_fzn, ↓x_fzd, ↓x_fzo, ↓x_rvn, ↓x_rvd, ↓x_rvo, ↓retC_d, ↓retC_own, ↓x_retn, ↓x_retd, ↓x_reto, ↓x_hd, ↓x_ho, ↓x_hn, ↓x_ad, ↓x_ao, ↓x_an, ↓x_set, ↓x_seq, ↓x_next, ↓x_break, ↓x_cont, ↓x_drop, ↓x_ret, ↓x_retN, ↓x_if, ↓x_asg, ↓x_asgG, ↓x_while, ↓x_for, ↓x_2, ↓x_1, ↓x_D, ↓bC_b, ↓x_B, ↓x_and, ↓x_or, ↓x_not, ↓x_andV, ↓x_orV, ↓x_notV, ↓x_tif, ↓x_nil, ↓x_cons, ↓x_tup, ↓x_lst, ↓x_rnil, ↓x_rcons, ↓x_callP, ↓x_rvLc, ↓x_rvLn, ↓x_meth, ↓x_meth0, ↓x_mut, ↓x_mg, ↓x_ms, ↓x_sl, ↓x_on, ↓iC_i, ↓x_os, ↓x_lc, ↓x_any, ↓x_pure, ↓sC_s, ↓x_rev, ↓x_call, ↓x_gn, ↓x_gnil, ↓x_gcons, ↓x_isi, ↓a_ii, ↓a_ss, ↓a_ll, ↓a_tt, ↓a_I, ↓a_neg, ↓a_mul, ↓a_mulL, ↓a_mulS, ↓a_eq, ↓a_ne, ↓a_lt, ↓a_le, ↓a_gt, ↓a_ge, ↓a_ltS, ↓a_leS, ↓a_inS, ↓a_ninS, ↓a_inL, ↓a_ninL, ↓a_inT, ↓a_ninT, ↓a_ixL, ↓a_ixT, ↓a_ixS, ↓a_ixR, ↓a_ixB, ↓a_slL, ↓a_slT, ↓a_slS, ↓a_lenS, ↓a_lenL, ↓a_lenT, ↓a_lenR, ↓a_join, ↓a_ixof, ↓a_ixofL, ↓a_rng1, ↓a_rng2, ↓a_min2, ↓a_max2, ↓a_lstS, ↓a_lstL, ↓a_lstT, ↓a_int, ↓a_intB, ↓a_isN, ↓x_popAt, ↓x_all, ↓x_anyB, ↓a_isB, ↓a_pop, ↓x_dict0, ↓x_aK, ↓x_kg, ↓x_ks, ↓x_dg, ↓x_di, ↓x_dpt, ↓x_enum, ↓a_backL, ↓a_backT, ↓x_never, ↓a_tupL, ↓a_tupT, ↓x_sort, ↓x_sortS, ↓x_sortP, ↓a_slR, ↓x_zip, ↓x_sum, ↓a_count, ↓augC_i, ↓x_aug, ↓x_par, ↓x_raise, ↓x_callX, ↓x_try, ↓x_subA, ↓x_setN, ↓a_two, ↓x_swIx, ↓x_mkX, ↓x_mk0, ↓x_raise0, ↓a_exB, ↓a_tbl, ↓a_cbl, ↓x_isX, ↓x_xattr, rvC_d, rvC_own, consO_s, isTy_s, isTy_l, mgC_own, walk_l, walk_t, walk_s, toR_d, toR_o, items_l, items_t, ok_s, ok_i, ok_b, ok_n, ok_l, ok_t, okL_n, okL_c, e_ss, e_ii, e_bb, e_ll, e_tt, eL_nn, eL_cc, eL_nc, eL_cn, ty_s, ty_i, ty_l, ty_b, kgC_dK, key_i, key_s, kI_eq, kS_eq, oneR_1, walkE_l, walkE_t, walkE_s, ty_t, twoR_2, side_l, side_t, twoD_2, ow_nil, ow_un, ow_d, m_app, m_ext, m_rev, sline, startC, restE, restC, wipeE, wipeC, plainC, List.getElem?_cons_zero, List.getElem?_cons_succ, List.getD_cons_zero, List.getD_cons_succ, List.set_cons_zero, List.set_cons_succ, List.length_cons, List.length_nil, List.map_cons, List.map_nil, List.replicate_succ, List.replicate_zero, List.cons_append, List.nil_append, Nat.reduceAdd, Nat.reduceMul, Int.reduceAdd, Int.reduceSub, Int.reduceMul, Nat.reduceSub, Nat.reduceLT, Nat.reduceLeDiff, Nat.lt_add_one, Int.reduceNeg, Int.reduceLT, Int.reduceLE, Int.reduceToNat, Int.reducePow, Nat.reducePow, List.flatten_cons, List.flatten_nil, List.append_nil, true_and, and_true, true_or, or_true, eq_self, and_self, decide_true, decide_false, Bool.not_true, Bool.not_false, Bool.not_not, Option.isSome_some, Bool.and_true, Bool.true_and, Bool.and_self, reduceIte, ↓reduceIte, Bool.false_eq_true, ite_self, reduceCtorEq, ne_eq, not_false_eq_true, forall_const, ↓x_gtup, ↓a_repr, ↓x_min1, ↓a_min2S, ↓x_yes, ↓x_ite, x_gnil, walk_l, walk_t, walk_s]
    refine opt_of (a := D.exc 4 ["at"] [.int n]) rfl ?_
    simp -dsimp only [↓opt_some, ↓br_true, ↓br_false, ↓nameC_d, ↓nameC_own, ↓nameC_dK, ↓nameC_dT, ↓x_name, ↓fzC_d, ↓fzC_own, ↓x_fzn, ↓x_fzd, ↓x_fzo, ↓x_rvn, ↓x_rvd, ↓x_rvo, ↓retC_d, ↓retC_own, ↓x_retn, ↓x_retd, ↓x_reto, ↓x_hd, ↓x_ho, ↓x_hn, ↓x_ad, ↓x_ao, ↓x_an, ↓x_set, ↓x_seq, ↓x_next, ↓x_break, ↓x_cont, ↓x_drop, ↓x_ret, ↓x_retN, ↓x_if, ↓x_asg, ↓x_asgG, ↓x_while, ↓x_for, ↓x_2, ↓x_1, ↓x_D, ↓bC_b, ↓x_B, ↓x_and, ↓x_or, ↓x_not, ↓x_andV, ↓x_orV, ↓x_notV, ↓x_tif, ↓x_nil, ↓x_cons, ↓x_tup, ↓x_lst, ↓x_rnil, ↓x_rcons, ↓x_callP, ↓x_rvLc, ↓x_rvLn, ↓x_meth, ↓x_meth0, ↓x_mut, ↓x_mg, ↓x_ms, ↓x_sl, ↓x_on, ↓iC_i, ↓x_os, ↓x_lc, ↓x_any, ↓x_pure, ↓sC_s, ↓x_rev, ↓x_call, ↓x_gn, ↓x_gnil, ↓x_gcons, ↓x_isi, ↓a_ii, ↓a_ss, ↓a_ll, ↓a_tt, ↓a_I, ↓a_neg, ↓a_mul, ↓a_mulL, ↓a_mulS, ↓a_eq, ↓a_ne, ↓a_lt, ↓a_le, ↓a_gt, ↓a_ge, ↓a_ltS, ↓a_leS, ↓a_inS, ↓a_ninS, ↓a_inL, ↓a_ninL, ↓a_inT, ↓a_ninT, ↓a_ixL, ↓a_ixT, ↓a_ixS, ↓a_ixR, ↓a_ixB, ↓a_slL, ↓a_slT, ↓a_slS, ↓a_lenS, ↓a_lenL, ↓a_lenT, ↓a_lenR, ↓a_join, ↓a_ixof, ↓a_ixofL, ↓a_rng1, ↓a_rng2, ↓a_min2, ↓a_max2, ↓a_lstS, ↓a_lstL, ↓a_lstT, ↓a_int, ↓a_intB, ↓a_isN, ↓x_popAt, ↓x_all, ↓x_anyB, ↓a_isB, ↓a_pop, ↓x_dict0, ↓x_aK, ↓x_kg, ↓x_ks, ↓x_dg, ↓x_di, ↓x_dpt, ↓x_enum, ↓a_backL, ↓a_backT, ↓x_never, ↓a_tupL, ↓a_tupT, ↓x_sort, ↓x_sortS, ↓x_sortP, ↓a_slR, ↓x_zip, ↓x_sum, ↓a_count, ↓augC_i, ↓x_aug, ↓x_par, ↓x_raise, ↓x_callX, ↓x_try, ↓x_subA, ↓x_setN, ↓a_two, ↓x_swIx, ↓x_mkX, ↓x_mk0, ↓x_raise0, ↓a_exB, ↓a_tbl, ↓a_cbl, ↓x_isX, ↓x_xattr, rvC_d, rvC_own, consO_s, isTy_s, isTy_l, mgC_own, walk_l, walk_t, walk_s, toR_d, toR_o, items_l, items_t, ok_s, ok_i, ok_b, ok_n, ok_l, ok_t, okL_n, okL_c, e_ss, e_ii, e_bb, e_ll, e_tt, eL_nn, eL_cc, eL_nc, eL_cn, ty_s, ty_i, ty_l, ty_b, kgC_dK, key_i, key_s, kI_eq, kS_eq, oneR_1, walkE_l, walkE_t, walkE_s, ty_t, twoR_2, side_l, side_t, twoD_2, ow_nil, ow_un, ow_d, m_app, m_ext, m_rev, sline, startC, restE, restC, wipeE, wipeC, plainC, List.getElem?_cons_zero, List.getElem?_cons_succ, List.getD_cons_zero, List.getD_cons_succ, List.set_cons_zero, List.set_cons_succ, List.length_cons, List.length_nil, List.map_cons, List.map_nil, List.replicate_succ, List.replicate_zero, List.cons_append, List.nil_append, Nat.reduceAdd, Nat.reduceMul, Int.reduceAdd, Int.reduceSub, Int.reduceMul, Nat.reduceSub, Nat.reduceLT, Nat.reduceLeDiff, Nat.lt_add_one, Int.reduceNeg, Int.reduceLT, Int.reduceLE, Int.reduceToNat, Int.reducePow, Nat.reducePow, List.flatten_cons, List.flatten_nil, List.append_nil, true_and, and_true, true_or, or_true, eq_self, and_self, decide_true, decide_false, Bool.not_true, Bool.not_false, Bool.not_not, Option.isSome_some, Bool.and_true, Bool.true_and, Bool.and_self, reduceIte, ↓reduceIte, Bool.false_eq_true, ite_self, reduceCtorEq, ne_eq, not_false_eq_true, forall_const, ↓x_gtup, ↓a_repr, ↓x_min1, ↓a_min2S, ↓x_yes, ↓x_ite, x_gnil, walk_l, walk_t, walk_s]
    refine opt_of (exA_eq rfl xlk_one) ?_
    simp -dsimp only [↓opt_some, ↓br_true, ↓br_false, ↓nameC_d, ↓nameC_own, ↓nameC_dK, ↓nameC_dT, ↓x_name, ↓fzC_d, ↓fzC_own, ↓x_fzn, ↓x_fzd, ↓x_fzo, ↓x_rvn, ↓x_rvd, ↓x_rvo, ↓retC_d, ↓retC_own, ↓x_retn, ↓x_retd, ↓x_reto, ↓x_hd, ↓x_ho, ↓x_hn, ↓x_ad, ↓x_ao, ↓x_an, ↓x_set, ↓x_seq, ↓x_next, ↓x_break, ↓x_cont, ↓x_drop, ↓x_ret, ↓x_retN, ↓x_if, ↓x_asg, ↓x_asgG, ↓x_while, ↓x_for, ↓x_2, ↓x_1, ↓x_D, ↓bC_b, ↓x_B, ↓x_and, ↓x_or, ↓x_not, ↓x_andV, ↓x_orV, ↓x_notV, ↓x_tif, ↓x_nil, ↓x_cons, ↓x_tup, ↓x_lst, ↓x_rnil, ↓x_rcons, ↓x_callP, ↓x_rvLc, ↓x_rvLn, ↓x_meth, ↓x_meth0, ↓x_mut, ↓x_mg, ↓x_ms, ↓x_sl, ↓x_on, ↓iC_i, ↓x_os, ↓x_lc, ↓x_any, ↓x_pure, ↓sC_s, ↓x_rev, ↓x_call, ↓x_gn, ↓x_gnil, ↓x_gcons, ↓x_isi, ↓a_ii, ↓a_ss, ↓a_ll, ↓a_tt, ↓a_I, ↓a_neg, ↓a_mul, ↓a_mulL, ↓a_mulS, ↓a_eq, ↓a_ne, ↓a_lt, ↓a_le, ↓a_gt, ↓a_ge, ↓a_ltS, ↓a_leS, ↓a_inS, ↓a_ninS, ↓a_inL, ↓a_ninL, ↓a_inT, ↓a_ninT, ↓a_ixL, ↓a_ixT, ↓a_ixS, ↓a_ixR, ↓a_ixB, ↓a_slL, ↓a_slT, ↓a_slS, ↓a_lenS, ↓a_lenL, ↓a_lenT, ↓a_lenR, ↓a_join, ↓a_ixof, ↓a_ixofL, ↓a_rng1, ↓a_rng2, ↓a_min2, ↓a_max2, ↓a_lstS, ↓a_lstL, ↓a_lstT, ↓a_int, ↓a_intB, ↓a_isN, ↓x_popAt, ↓x_all, ↓x_anyB, ↓a_isB, ↓a_pop, ↓x_dict0, ↓x_aK, ↓x_kg, ↓x_ks, ↓x_dg, ↓x_di, ↓x_dpt, ↓x_enum, ↓a_backL, ↓a_backT, ↓x_never, ↓a_tupL, ↓a_tupT, ↓x_sort, ↓x_sortS, ↓x_sortP, ↓a_slR, ↓x_zip, ↓x_sum, ↓a_count, ↓augC_i, ↓x_aug, ↓x_par, ↓x_raise, ↓x_callX, ↓x_try, ↓x_subA, ↓x_setN, ↓a_two, ↓x_swIx, ↓x_mkX, ↓x_mk0, ↓x_raise0, ↓a_exB, ↓a_tbl, ↓a_cbl, ↓x_isX, ↓x_xattr, rvC_d, rvC_own, consO_s, isTy_s, isTy_l, mgC_own, walk_l, walk_t, walk_s, toR_d, toR_o, items_l, items_t, ok_s, ok_i, ok_b, ok_n, ok_l, ok_t, okL_n, okL_c, e_ss, e_ii, e_bb, e_ll, e_tt, eL_nn, eL_cc, eL_nc, eL_cn, ty_s, ty_i, ty_l, ty_b, kgC_dK, key_i, key_s, kI_eq, kS_eq, oneR_1, walkE_l, walkE_t, walkE_s, ty_t, twoR_2, side_l, side_t, twoD_2, ow_nil, ow_un, ow_d, m_app, m_ext, m_rev, sline, startC, restE, restC, wipeE, wipeC, plainC, List.getElem?_cons_zero, List.getElem?_cons_succ, List.getD_cons_zero, List.getD_cons_succ, List.set_cons_zero, List.set_cons_succ, List.length_cons, List.length_nil, List.map_cons, List.map_nil, List.replicate_succ, List.replicate_zero, List.cons_append, List.nil_append, Nat.reduceAdd, Nat.reduceMul, Int.reduceAdd, Int.reduceSub, Int.reduceMul, Nat.reduceSub, Nat.reduceLT, Nat.reduceLeDiff, Nat.lt_add_one, Int.reduceNeg, Int.reduceLT, Int.reduceLE, Int.reduceToNat, Int.reducePow, Nat.reducePow, List.flatten_cons, List.flatten_nil, List.append_nil, true_and, and_true, true_or, or_true, eq_self, and_self, decide_true, decide_false, Bool.not_true, Bool.not_false, Bool.not_not, Option.isSome_some, Bool.and_true, Bool.true_and, Bool.and_self, reduceIte, ↓reduceIte, Bool.false_eq_true, ite_self, reduceCtorEq, ne_eq, not_false_eq_true, forall_const, ↓x_gtup, ↓a_repr, ↓x_min1, ↓a_min2S, ↓x_yes, ↓x_ite, x_gnil, walk_l, walk_t, walk_s]
    refine opt_of (a := D.exc 5 ["word"] [.str w]) rfl ?_
    simp -dsimp only [↓opt_some, ↓br_true, ↓br_false, ↓nameC_d, ↓nameC_own, ↓nameC_dK, ↓nameC_dT, ↓x_name, ↓fzC_d, ↓fzC_own, ↓x_fzn, ↓x_fzd, ↓x_fzo, ↓x_rvn, ↓x_rvd, ↓x_rvo, ↓retC_d, ↓retC_own, ↓x_retn, ↓x_retd, ↓x_reto, ↓x_hd, ↓x_ho, ↓x_hn, ↓x_ad, ↓x_ao, ↓x_an, ↓x_set, ↓x_seq, ↓x_next, ↓x_break, ↓x_cont, ↓x_drop, ↓x_ret, ↓x_retN, ↓x_if, ↓x_asg, ↓x_asgG, ↓x_while, ↓x_for, ↓x_2, ↓x_1, ↓x_D, ↓bC_b, ↓x_B, ↓x_and, ↓x_or, ↓x_not, ↓x_andV, ↓x_orV, ↓x_notV, ↓x_tif, ↓x_nil, ↓x_cons, ↓x_tup, ↓x_lst, ↓x_rnil, ↓x_rcons, ↓x_callP, ↓x_rvLc, ↓x_rvLn, ↓x_meth, ↓x_meth0, ↓x_mut, ↓x_mg, ↓x_ms, ↓x_sl, ↓x_on, ↓iC_i, ↓x_os, ↓x_lc, ↓x_any, ↓x_pure, ↓sC_s, ↓x_rev, ↓x_call, ↓x_gn, ↓x_gnil, ↓x_gcons, ↓x_isi, ↓a_ii, ↓a_ss, ↓a_ll, ↓a_tt, ↓a_I, ↓a_neg, ↓a_mul, ↓a_mulL, ↓a_mulS, ↓a_eq, ↓a_ne, ↓a_lt, ↓a_le, ↓a_gt, ↓a_ge, ↓a_ltS, ↓a_leS, ↓a_inS, ↓a_ninS, ↓a_inL, ↓a_ninL, ↓a_inT, ↓a_ninT, ↓a_ixL, ↓a_ixT, ↓a_ixS, ↓a_ixR, ↓a_ixB, ↓a_slL, ↓a_slT, ↓a_slS, ↓a_lenS, ↓a_lenL, ↓a_lenT, ↓a_lenR, ↓a_join, ↓a_ixof, ↓a_ixofL, ↓a_rng1, ↓a_rng2, ↓a_min2, ↓a_max2, ↓a_lstS, ↓a_lstL, ↓a_lstT, ↓a_int, ↓a_intB, ↓a_isN, ↓x_popAt, ↓x_all, ↓x_anyB, ↓a_isB, ↓a_pop, ↓x_dict0, ↓x_aK, ↓x_kg, ↓x_ks, ↓x_dg, ↓x_di, ↓x_dpt, ↓x_enum, ↓a_backL, ↓a_backT, ↓x_never, ↓a_tupL, ↓a_tupT, ↓x_sort, ↓x_sortS, ↓x_sortP, ↓a_slR, ↓x_zip, ↓x_sum, ↓a_count, ↓augC_i, ↓x_aug, ↓x_par, ↓x_raise, ↓x_callX, ↓x_try, ↓x_subA, ↓x_setN, ↓a_two, ↓x_swIx, ↓x_mkX, ↓x_mk0, ↓x_raise0, ↓a_exB, ↓a_tbl, ↓a_cbl, ↓x_isX, ↓x_xattr, rvC_d, rvC_own, consO_s, isTy_s, isTy_l, mgC_own, walk_l, walk_t, walk_s, toR_d, toR_o, items_l, items_t, ok_s, ok_i, ok_b, ok_n, ok_l, ok_t, okL_n, okL_c, e_ss, e_ii, e_bb, e_ll, e_tt, eL_nn, eL_cc, eL_nc, eL_cn, ty_s, ty_i, ty_l, ty_b, kgC_dK, key_i, key_s, kI_eq, kS_eq, oneR_1, walkE_l, walkE_t, walkE_s, ty_t, twoR_2, side_l, side_t, twoD_2, ow_nil, ow_un, ow_d, m_app, m_ext, m_rev, sline, startC, restE, restC, wipeE, wipeC, plainC, List.getElem?_cons_zero, List.getElem?_cons_succ, List.getD_cons_zero, List.getD_cons_succ, List.set_cons_zero, List.set_cons_succ, List.length_cons, List.length_nil, List.map_cons, List.map_nil, List.replicate_succ, List.replicate_zero, List.cons_append, List.nil_append, Nat.reduceAdd, Nat.reduceMul, Int.reduceAdd, Int.reduceSub, Int.reduceMul, Nat.reduceSub, Nat.reduceLT, Nat.reduceLeDiff, Nat.lt_add_one, Int.reduceNeg, Int.reduceLT, Int.reduceLE, Int.reduceToNat, Int.reducePow, Nat.reducePow, List.flatten_cons, List.flatten_nil, List.append_nil, true_and, and_true, true_or, or_true, eq_self, and_self, decide_true, decide_false, Bool.not_true, Bool.not_false, Bool.not_not, Option.isSome_some, Bool.and_true, Bool.true_and, Bool.and_self, reduceIte, ↓reduceIte, Bool.false_eq_true, ite_self, reduceCtorEq, ne_eq, not_false_eq_true, forall_const, ↓x_gtup, ↓a_repr, ↓x_min1, ↓a_min2S, ↓x_yes, ↓x_ite, x_gnil, walk_l, walk_t, walk_s]
    refine opt_of (exA_eq rfl xlk_one) ?_
    simp -dsimp only [↓opt_some, ↓br_true, ↓br_false, ↓nameC_d, ↓nameC_own, ↓nameC_dK, ↓nameC_dT, ↓x_name, ↓fzC_d, ↓fzC_own, ↓x_fzn, ↓x_fzd, ↓x_fzo, ↓x_rvn, ↓x_rvd, ↓x_rvo, ↓retC_d, ↓retC_own, ↓x_retn, ↓x_retd, ↓x_reto, ↓x_hd, ↓x_ho, ↓x_hn, ↓x_ad, ↓x_ao, ↓x_an, ↓x_set, ↓x_seq, ↓x_next, ↓x_break, ↓x_cont, ↓x_drop, ↓x_ret, ↓x_retN, ↓x_if, ↓x_asg, ↓x_asgG, ↓x_while, ↓x_for, ↓x_2, ↓x_1, ↓x_D, ↓bC_b, ↓x_B, ↓x_and, ↓x_or, ↓x_not, ↓x_andV, ↓x_orV, ↓x_notV, ↓x_tif, ↓x_nil, ↓x_cons, ↓x_tup, ↓x_lst, ↓x_rnil, ↓x_rcons, ↓x_callP, ↓x_rvLc, ↓x_rvLn, ↓x_meth, ↓x_meth0, ↓x_mut, ↓x_mg, ↓x_ms, ↓x_sl, ↓x_on, ↓iC_i, ↓x_os, ↓x_lc, ↓x_any, ↓x_pure, ↓sC_s, ↓x_rev, ↓x_call, ↓x_gn, ↓x_gnil, ↓x_gcons, ↓x_isi, ↓a_ii, ↓a_ss, ↓a_ll, ↓a_tt, ↓a_I, ↓a_neg, ↓a_mul, ↓a_mulL, ↓a_mulS, ↓a_eq, ↓a_ne, ↓a_lt, ↓a_le, ↓a_gt, ↓a_ge, ↓a_ltS, ↓a_leS, ↓a_inS, ↓a_ninS, ↓a_inL, ↓a_ninL, ↓a_inT, ↓a_ninT, ↓a_ixL, ↓a_ixT, ↓a_ixS, ↓a_ixR, ↓a_ixB, ↓a_slL, ↓a_slT, ↓a_slS, ↓a_lenS, ↓a_lenL, ↓a_lenT, ↓a_lenR, ↓a_join, ↓a_ixof, ↓a_ixofL, ↓a_rng1, ↓a_rng2, ↓a_min2, ↓a_max2, ↓a_lstS, ↓a_lstL, ↓a_lstT, ↓a_int, ↓a_intB, ↓a_isN, ↓x_popAt, ↓x_all, ↓x_anyB, ↓a_isB, ↓a_pop, ↓x_dict0, ↓x_aK, ↓x_kg, ↓x_ks, ↓x_dg, ↓x_di, ↓x_dpt, ↓x_enum, ↓a_backL, ↓a_backT, ↓x_never, ↓a_tupL, ↓a_tupT, ↓x_sort, ↓x_sortS, ↓x_sortP, ↓a_slR, ↓x_zip, ↓x_sum, ↓a_count, ↓augC_i, ↓x_aug, ↓x_par, ↓x_raise, ↓x_callX, ↓x_try, ↓x_subA, ↓x_setN, ↓a_two, ↓x_swIx, ↓x_mkX, ↓x_mk0, ↓x_raise0, ↓a_exB, ↓a_tbl, ↓a_cbl, ↓x_isX, ↓x_xattr, rvC_d, rvC_own, consO_s, isTy_s, isTy_l, mgC_own, walk_l, walk_t, walk_s, toR_d, toR_o, items_l, items_t, ok_s, ok_i, ok_b, ok_n, ok_l, ok_t, okL_n, okL_c, e_ss, e_ii, e_bb, e_ll, e_tt, eL_nn, eL_cc, eL_nc, eL_cn, ty_s, ty_i, ty_l, ty_b, kgC_dK, key_i, key_s, kI_eq, kS_eq, oneR_1, walkE_l, walkE_t, walkE_s, ty_t, twoR_2, side_l, side_t, twoD_2, ow_nil, ow_un, ow_d, m_app, m_ext, m_rev, sline, startC, restE, restC, wipeE, wipeC, plainC, List.getElem?_cons_zero, List.getElem?_cons_succ, List.getD_cons_zero, List.getD_cons_succ, List.set_cons_zero, List.set_cons_succ, List.length_cons, List.length_nil, List.map_cons, List.map_nil, List.replicate_succ, List.replicate_zero, List.cons_append, List.nil_append, Nat.reduceAdd, Nat.reduceMul, Int.reduceAdd, Int.reduceSub, Int.reduceMul, Nat.reduceSub, Nat.reduceLT, Nat.reduceLeDiff, Nat.lt_add_one, Int.reduceNeg, Int.reduceLT, Int.reduceLE, Int.reduceToNat, Int.reducePow, Nat.reducePow, List.flatten_cons, List.flatten_nil, List.append_nil, true_and, and_true, true_or, or_true, eq_self, and_self, decide_true, decide_false, Bool.not_true, Bool.not_false, Bool.not_not, Option.isSome_some, Bool.and_true, Bool.true_and, Bool.and_self, reduceIte, ↓reduceIte, Bool.false_eq_true, ite_self, reduceCtorEq, ne_eq, not_false_eq_true, forall_const, ↓x_gtup, ↓a_repr, ↓x_min1, ↓a_min2S, ↓x_yes, ↓x_ite, x_gnil, walk_l, walk_t, walk_s]
    refine opt_of (a := D.exc 6 ["name"] [.str w]) rfl ?_
    simp -dsimp only [↓opt_some, ↓br_true, ↓br_false, ↓nameC_d, ↓nameC_own, ↓nameC_dK, ↓nameC_dT, ↓x_name, ↓fzC_d, ↓fzC_own, ↓x_fzn, ↓x_fzd, ↓x_fzo, ↓x_rvn, ↓x_rvd, ↓x_rvo, ↓retC_d, ↓retC_own, ↓x_retn, ↓x_retd, ↓x_reto, ↓x_hd, ↓x_ho, ↓x_hn, ↓x_ad, ↓x_ao, ↓x_an, ↓x_set, ↓x_seq, ↓x_next, ↓x_break, ↓x_cont, ↓x_drop, ↓x_ret, ↓x_retN, ↓x_if, ↓x_asg, ↓x_asgG, ↓x_while, ↓x_for, ↓x_2, ↓x_1, ↓x_D, ↓bC_b, ↓x_B, ↓x_and, ↓x_or, ↓x_not, ↓x_andV, ↓x_orV, ↓x_notV, ↓x_tif, ↓x_nil, ↓x_cons, ↓x_tup, ↓x_lst, ↓x_rnil, ↓x_rcons, ↓x_callP, ↓x_rvLc, ↓x_rvLn, ↓x_meth, ↓x_meth0, ↓x_mut, ↓x_mg, ↓x_ms, ↓x_sl, ↓x_on, ↓iC_i, ↓x_os, ↓x_lc, ↓x_any, ↓x_pure, ↓sC_s, ↓x_rev, ↓x_call, ↓x_gn, ↓x_gnil, ↓x_gcons, ↓x_isi, ↓a_ii, ↓a_ss, ↓a_ll, ↓a_tt, ↓a_I, ↓a_neg, ↓a_mul, ↓a_mulL, ↓a_mulS, ↓a_eq, ↓a_ne, ↓a_lt, ↓a_le, ↓a_gt, ↓a_ge, ↓a_ltS, ↓a_leS, ↓a_inS, ↓a_ninS, ↓a_inL, ↓a_ninL, ↓a_inT, ↓a_ninT, ↓a_ixL, ↓a_ixT, ↓a_ixS, ↓a_ixR, ↓a_ixB, ↓a_slL, ↓a_slT, ↓a_slS, ↓a_lenS, ↓a_lenL, ↓a_lenT, ↓a_lenR, ↓a_join, ↓a_ixof, ↓a_ixofL, ↓a_rng1, ↓a_rng2, ↓a_min2, ↓a_max2, ↓a_lstS, ↓a_lstL, ↓a_lstT, ↓a_int, ↓a_intB, ↓a_isN, ↓x_popAt, ↓x_all, ↓x_anyB, ↓a_isB, ↓a_pop, ↓x_dict0, ↓x_aK, ↓x_kg, ↓x_ks, ↓x_dg, ↓x_di, ↓x_dpt, ↓x_enum, ↓a_backL, ↓a_backT, ↓x_never, ↓a_tupL, ↓a_tupT, ↓x_sort, ↓x_sortS, ↓x_sortP, ↓a_slR, ↓x_zip, ↓x_sum, ↓a_count, ↓augC_i, ↓x_aug, ↓x_par, ↓x_raise, ↓x_callX, ↓x_try, ↓x_subA, ↓x_setN, ↓a_two, ↓x_swIx, ↓x_mkX, ↓x_mk0, ↓x_raise0, ↓a_exB, ↓a_tbl, ↓a_cbl, ↓x_isX, ↓x_xattr, rvC_d, rvC_own, consO_s, isTy_s, isTy_l, mgC_own, walk_l, walk_t, walk_s, toR_d, toR_o, items_l, items_t, ok_s, ok_i, ok_b, ok_n, ok_l, ok_t, okL_n, okL_c, e_ss, e_ii, e_bb, e_ll, e_tt, eL_nn, eL_cc, eL_nc, eL_cn, ty_s, ty_i, ty_l, ty_b, kgC_dK, key_i, key_s, kI_eq, kS_eq, oneR_1, walkE_l, walkE_t, walkE_s, ty_t, twoR_2, side_l, side_t, twoD_2, ow_nil, ow_un, ow_d, m_app, m_ext, m_rev, sline, startC, restE, restC, wipeE, wipeC, plainC, List.getElem?_cons_zero, List.getElem?_cons_succ, List.getD_cons_zero, List.getD_cons_succ, List.set_cons_zero, List.set_cons_succ, List.length_cons, List.length_nil, List.map_cons, List.map_nil, List.replicate_succ, List.replicate_zero, List.cons_append, List.nil_append, Nat.reduceAdd, Nat.reduceMul, Int.reduceAdd, Int.reduceSub, Int.reduceMul, Nat.reduceSub, Nat.reduceLT, Nat.reduceLeDiff, Nat.lt_add_one, Int.reduceNeg, Int.reduceLT, Int.reduceLE, Int.reduceToNat, Int.reducePow, Nat.reducePow, List.flatten_cons, List.flatten_nil, List.append_nil, true_and, and_true, true_or, or_true, eq_self, and_self, decide_true, decide_false, Bool.not_true, Bool.not_false, Bool.not_not, Option.isSome_some, Bool.and_true, Bool.true_and, Bool.and_self, reduceIte, ↓reduceIte, Bool.false_eq_true, ite_self, reduceCtorEq, ne_eq, not_false_eq_true, forall_const, ↓x_gtup, ↓a_repr, ↓x_min1, ↓a_min2S, ↓x_yes, ↓x_ite, x_gnil, walk_l, walk_t, walk_s]
    refine opt_of (exA_eq rfl xlk_one) ?_
    simp -dsimp only [↓opt_some, ↓br_true, ↓br_false, ↓nameC_d, ↓nameC_own, ↓nameC_dK, ↓nameC_dT, ↓x_name, ↓fzC_d, ↓fzC_own, ↓x_fzn, ↓x_fzd, ↓x_fzo, ↓x_rvn, ↓x_rvd, ↓x_rvo, ↓retC_d, ↓retC_own, ↓x_retn, ↓x_retd, ↓x_reto, ↓x_hd, ↓x_ho, ↓x_hn, ↓x_ad, ↓x_ao, ↓x_an, ↓x_set, ↓x_seq, ↓x_next, ↓x_break, ↓x_cont, ↓x_drop, ↓x_ret, ↓x_retN, ↓x_if, ↓x_asg, ↓x_asgG, ↓x_while, ↓x_for, ↓x_2, ↓x_1, ↓x_D, ↓bC_b, ↓x_B, ↓x_and, ↓x_or, ↓x_not, ↓x_andV, ↓x_orV, ↓x_notV, ↓x_tif, ↓x_nil, ↓x_cons, ↓x_tup, ↓x_lst, ↓x_rnil, ↓x_rcons, ↓x_callP, ↓x_rvLc, ↓x_rvLn, ↓x_meth, ↓x_meth0, ↓x_mut, ↓x_mg, ↓x_ms, ↓x_sl, ↓x_on, ↓iC_i, ↓x_os, ↓x_lc, ↓x_any, ↓x_pure, ↓sC_s, ↓x_rev, ↓x_call, ↓x_gn, ↓x_gnil, ↓x_gcons, ↓x_isi, ↓a_ii, ↓a_ss, ↓a_ll, ↓a_tt, ↓a_I, ↓a_neg, ↓a_mul, ↓a_mulL, ↓a_mulS, ↓a_eq, ↓a_ne, ↓a_lt, ↓a_le, ↓a_gt, ↓a_ge, ↓a_ltS, ↓a_leS, ↓a_inS, ↓a_ninS, ↓a_inL, ↓a_ninL, ↓a_inT, ↓a_ninT, ↓a_ixL, ↓a_ixT, ↓a_ixS, ↓a_ixR, ↓a_ixB, ↓a_slL, ↓a_slT, ↓a_slS, ↓a_lenS, ↓a_lenL, ↓a_lenT, ↓a_lenR, ↓a_join, ↓a_ixof, ↓a_ixofL, ↓a_rng1, ↓a_rng2, ↓a_min2, ↓a_max2, ↓a_lstS, ↓a_lstL, ↓a_lstT, ↓a_int, ↓a_intB, ↓a_isN, ↓x_popAt, ↓x_all, ↓x_anyB, ↓a_isB, ↓a_pop, ↓x_dict0, ↓x_aK, ↓x_kg, ↓x_ks, ↓x_dg, ↓x_di, ↓x_dpt, ↓x_enum, ↓a_backL, ↓a_backT, ↓x_never, ↓a_tupL, ↓a_tupT, ↓x_sort, ↓x_sortS, ↓x_sortP, ↓a_slR, ↓x_zip, ↓x_sum, ↓a_count, ↓augC_i, ↓x_aug, ↓x_par, ↓x_raise, ↓x_callX, ↓x_try, ↓x_subA, ↓x_setN, ↓a_two, ↓x_swIx, ↓x_mkX, ↓x_mk0, ↓x_raise0, ↓a_exB, ↓a_tbl, ↓a_cbl, ↓x_isX, ↓x_xattr, rvC_d, rvC_own, consO_s, isTy_s, isTy_l, mgC_own, walk_l, walk_t, walk_s, toR_d, toR_o, items_l, items_t, ok_s, ok_i, ok_b, ok_n, ok_l, ok_t, okL_n, okL_c, e_ss, e_ii, e_bb, e_ll, e_tt, eL_nn, eL_cc, eL_nc, eL_cn, ty_s, ty_i, ty_l, ty_b, kgC_dK, key_i, key_s, kI_eq, kS_eq, oneR_1, walkE_l, walkE_t, walkE_s, ty_t, twoR_2, side_l, side_t, twoD_2, ow_nil, ow_un, ow_d, m_app, m_ext, m_rev, sline, startC, restE, restC, wipeE, wipeC, plainC, List.getElem?_cons_zero, List.getElem?_cons_succ, List.getD_cons_zero, List.getD_cons_succ, List.set_cons_zero, List.set_cons_succ, List.length_cons, List.length_nil, List.map_cons, List.map_nil, List.replicate_succ, List.replicate_zero, List.cons_append, List.nil_append, Nat.reduceAdd, Nat.reduceMul, Int.reduceAdd, Int.reduceSub, Int.reduceMul, Nat.reduceSub, Nat.reduceLT, Nat.reduceLeDiff, Nat.lt_add_one, Int.reduceNeg, Int.reduceLT, Int.reduceLE, Int.reduceToNat, Int.reducePow, Nat.reducePow, List.flatten_cons, List.flatten_nil, List.append_nil, true_and, and_true, true_or, or_true, eq_self, and_self, decide_true, decide_false, Bool.not_true, Bool.not_false, Bool.not_not, Option.isSome_some, Bool.and_true, Bool.true_and, Bool.and_self, reduceIte, ↓reduceIte, Bool.false_eq_true, ite_self, reduceCtorEq, ne_eq, not_false_eq_true, forall_const, ↓x_gtup, ↓a_repr, ↓x_min1, ↓a_min2S, ↓x_yes, ↓x_ite, x_gnil, walk_l, walk_t, walk_s]
    refine opt_of (a := D.exc 7 ["name"] [.str w]) rfl ?_
    simp -dsimp only [↓opt_some, ↓br_true, ↓br_false, ↓nameC_d, ↓nameC_own, ↓nameC_dK, ↓nameC_dT, ↓x_name, ↓fzC_d, ↓fzC_own, ↓x_fzn, ↓x_fzd, ↓x_fzo, ↓x_rvn, ↓x_rvd, ↓x_rvo, ↓retC_d, ↓retC_own, ↓x_retn, ↓x_retd, ↓x_reto, ↓x_hd, ↓x_ho, ↓x_hn, ↓x_ad, ↓x_ao, ↓x_an, ↓x_set, ↓x_seq, ↓x_next, ↓x_break, ↓x_cont, ↓x_drop, ↓x_ret, ↓x_retN, ↓x_if, ↓x_asg, ↓x_asgG, ↓x_while, ↓x_for, ↓x_2, ↓x_1, ↓x_D, ↓bC_b, ↓x_B, ↓x_and, ↓x_or, ↓x_not, ↓x_andV, ↓x_orV, ↓x_notV, ↓x_tif, ↓x_nil, ↓x_cons, ↓x_tup, ↓x_lst, ↓x_rnil, ↓x_rcons, ↓x_callP, ↓x_rvLc, ↓x_rvLn, ↓x_meth, ↓x_meth0, ↓x_mut, ↓x_mg, ↓x_ms, ↓x_sl, ↓x_on, ↓iC_i, ↓x_os, ↓x_lc, ↓x_any, ↓x_pure, ↓sC_s, ↓x_rev, ↓x_call, ↓x_gn, ↓x_gnil, ↓x_gcons, ↓x_isi, ↓a_ii, ↓a_ss, ↓a_ll, ↓a_tt, ↓a_I, ↓a_neg, ↓a_mul, ↓a_mulL, ↓a_mulS, ↓a_eq, ↓a_ne, ↓a_lt, ↓a_le, ↓a_gt, ↓a_ge, ↓a_ltS, ↓a_leS, ↓a_inS, ↓a_ninS, ↓a_inL, ↓a_ninL, ↓a_inT, ↓a_ninT, ↓a_ixL, ↓a_ixT, ↓a_ixS, ↓a_ixR, ↓a_ixB, ↓a_slL, ↓a_slT, ↓a_slS, ↓a_lenS, ↓a_lenL, ↓a_lenT, ↓a_lenR, ↓a_join, ↓a_ixof, ↓a_ixofL, ↓a_rng1, ↓a_rng2, ↓a_min2, ↓a_max2, ↓a_lstS, ↓a_lstL, ↓a_lstT, ↓a_int, ↓a_intB, ↓a_isN, ↓x_popAt, ↓x_all, ↓x_anyB, ↓a_isB, ↓a_pop, ↓x_dict0, ↓x_aK, ↓x_kg, ↓x_ks, ↓x_dg, ↓x_di, ↓x_dpt, ↓x_enum, ↓a_backL, ↓a_backT, ↓x_never, ↓a_tupL, ↓a_tupT, ↓x_sort, ↓x_sortS, ↓x_sortP, ↓a_slR, ↓x_zip, ↓x_sum, ↓a_count, ↓augC_i, ↓x_aug, ↓x_par, ↓x_raise, ↓x_callX, ↓x_try, ↓x_subA, ↓x_setN, ↓a_two, ↓x_swIx, ↓x_mkX, ↓x_mk0, ↓x_raise0, ↓a_exB, ↓a_tbl, ↓a_cbl, ↓x_isX, ↓x_xattr, rvC_d, rvC_own, consO_s, isTy_s, isTy_l, mgC_own, walk_l, walk_t, walk_s, toR_d, toR_o, items_l, items_t, ok_s, ok_i, ok_b, ok_n, ok_l, ok_t, okL_n, okL_c, e_ss, e_ii, e_bb, e_ll, e_tt, eL_nn, eL_cc, eL_nc, eL_cn, ty_s, ty_i, ty_l, ty_b, kgC_dK, key_i, key_s, kI_eq, kS_eq, oneR_1, walkE_l, walkE_t, walkE_s, ty_t, twoR_2, side_l, side_t, twoD_2, ow_nil, ow_un, ow_d, m_app, m_ext, m_rev, sline, startC, restE, restC, wipeE, wipeC, plainC, List.getElem?_cons_zero, List.getElem?_cons_succ, List.getD_cons_zero, List.getD_cons_succ, List.set_cons_zero, List.set_cons_succ, List.length_cons, List.length_nil, List.map_cons, List.map_nil, List.replicate_succ, List.replicate_zero, List.cons_append, List.nil_append, Nat.reduceAdd, Nat.reduceMul, Int.reduceAdd, Int.reduceSub, Int.reduceMul, Nat.reduceSub, Nat.reduceLT, Nat.reduceLeDiff, Nat.lt_add_one, Int.reduceNeg, Int.reduceLT, Int.reduceLE, Int.reduceToNat, Int.reducePow, Nat.reducePow, List.flatten_cons, List.flatten_nil, List.append_nil, true_and, and_true, true_or, or_true, eq_self, and_self, decide_true, decide_false, Bool.not_true, Bool.not_false, Bool.not_not, Option.isSome_some, Bool.and_true, Bool.true_and, Bool.and_self, reduceIte, ↓reduceIte, Bool.false_eq_true, ite_self, reduceCtorEq, ne_eq, not_false_eq_true, forall_const, ↓x_gtup, ↓a_repr, ↓x_min1, ↓a_min2S, ↓x_yes, ↓x_ite, x_gnil, walk_l, walk_t, walk_s]
    refine opt_of (exA_eq rfl xlk_one) ?_
    simp -dsimp only [↓opt_some, ↓br_true, ↓br_false, ↓nameC_d, ↓nameC_own, ↓nameC_dK, ↓nameC_dT, ↓x_name, ↓fzC_d, ↓fzC_own, ↓x_fzn, ↓x_fzd, ↓x_fzo, ↓x_rvn, ↓x_rvd, ↓x_rvo, ↓retC_d, ↓retC_own, ↓x_retn, ↓x_retd, ↓x_reto, ↓x_hd, ↓x_ho, ↓x_hn, ↓x_ad, ↓x_ao, ↓x_an, ↓x_set, ↓x_seq, ↓x_next, ↓x_break, ↓x_cont, ↓x_drop, ↓x_ret, ↓x_retN, ↓x_if, ↓x_asg, ↓x_asgG, ↓x_while, ↓x_for, ↓x_2, ↓x_1, ↓x_D, ↓bC_b, ↓x_B, ↓x_and, ↓x_or, ↓x_not, ↓x_andV, ↓x_orV, ↓x_notV, ↓x_tif, ↓x_nil, ↓x_cons, ↓x_tup, ↓x_lst, ↓x_rnil, ↓x_rcons, ↓x_callP, ↓x_rvLc, ↓x_rvLn, ↓x_meth, ↓x_meth0, ↓x_mut, ↓x_mg, ↓x_ms, ↓x_sl, ↓x_on, ↓iC_i, ↓x_os, ↓x_lc, ↓x_any, ↓x_pure, ↓sC_s, ↓x_rev, ↓x_call, ↓x_gn, ↓x_gnil, ↓x_gcons, ↓x_isi, ↓a_ii, ↓a_ss, ↓a_ll, ↓a_tt, ↓a_I, ↓a_neg, ↓a_mul, ↓a_mulL, ↓a_mulS, ↓a_eq, ↓a_ne, ↓a_lt, ↓a_le, ↓a_gt, ↓a_ge, ↓a_ltS, ↓a_leS, ↓a_inS, ↓a_ninS, ↓a_inL, ↓a_ninL, ↓a_inT, ↓a_ninT, ↓a_ixL, ↓a_ixT, ↓a_ixS, ↓a_ixR, ↓a_ixB, ↓a_slL, ↓a_slT, ↓a_slS, ↓a_lenS, ↓a_lenL, ↓a_lenT, ↓a_lenR, ↓a_join, ↓a_ixof, ↓a_ixofL, ↓a_rng1, ↓a_rng2, ↓a_min2, ↓a_max2, ↓a_lstS, ↓a_lstL, ↓a_lstT, ↓a_int, ↓a_intB, ↓a_isN, ↓x_popAt, ↓x_all, ↓x_anyB, ↓a_isB, ↓a_pop, ↓x_dict0, ↓x_aK, ↓x_kg, ↓x_ks, ↓x_dg, ↓x_di, ↓x_dpt, ↓x_enum, ↓a_backL, ↓a_backT, ↓x_never, ↓a_tupL, ↓a_tupT, ↓x_sort, ↓x_sortS, ↓x_sortP, ↓a_slR, ↓x_zip, ↓x_sum, ↓a_count, ↓augC_i, ↓x_aug, ↓x_par, ↓x_raise, ↓x_callX, ↓x_try, ↓x_subA, ↓x_setN, ↓a_two, ↓x_swIx, ↓x_mkX, ↓x_mk0, ↓x_raise0, ↓a_exB, ↓a_tbl, ↓a_cbl, ↓x_isX, ↓x_xattr, rvC_d, rvC_own, consO_s, isTy_s, isTy_l, mgC_own, walk_l, walk_t, walk_s, toR_d, toR_o, items_l, items_t, ok_s, ok_i, ok_b, ok_n, ok_l, ok_t, okL_n, okL_c, e_ss, e_ii, e_bb, e_ll, e_tt, eL_nn, eL_cc, eL_nc, eL_cn, ty_s, ty_i, ty_l, ty_b, kgC_dK, key_i, key_s, kI_eq, kS_eq, oneR_1, walkE_l, walkE_t, walkE_s, ty_t, twoR_2, side_l, side_t, twoD_2, ow_nil, ow_un, ow_d, m_app, m_ext, m_rev, sline, startC, restE, restC, wipeE, wipeC, plainC, List.getElem?_cons_zero, List.getElem?_cons_succ, List.getD_cons_zero, List.getD_cons_succ, List.set_cons_zero, List.set_cons_succ, List.length_cons, List.length_nil, List.map_cons, List.map_nil, List.replicate_succ, List.replicate_zero, List.cons_append, List.nil_append, Nat.reduceAdd, Nat.reduceMul, Int.reduceAdd, Int.reduceSub, Int.reduceMul, Nat.reduceSub, Nat.reduceLT, Nat.reduceLeDiff, Nat.lt_add_one, Int.reduceNeg, Int.reduceLT, Int.reduceLE, Int.reduceToNat, Int.reducePow, Nat.reducePow, List.flatten_cons, List.flatten_nil, List.append_nil, true_and, and_true, true_or, or_true, eq_self, and_self, decide_true, decide_false, Bool.not_true, Bool.not_false, Bool.not_not, Option.isSome_some, Bool.and_true, Bool.true_and, Bool.and_self, reduceIte, ↓reduceIte, Bool.false_eq_true, ite_self, reduceCtorEq, ne_eq, not_false_eq_true, forall_const, ↓x_gtup, ↓a_repr, ↓x_min1, ↓a_min2S, ↓x_yes, ↓x_ite, x_gnil, walk_l, walk_t, walk_s]
    refine opt_of (a := D.exc 8 ["name"] [.str w]) rfl ?_
    simp -dsimp only [↓opt_some, ↓br_true, ↓br_false, ↓nameC_d, ↓nameC_own, ↓nameC_dK, ↓nameC_dT, ↓x_name, ↓fzC_d, ↓fzC_own, ↓x_fzn, ↓x_fzd, ↓x_fzo, ↓x_rvn, ↓x_rvd, ↓x_rvo, ↓retC_d, ↓retC_own, ↓x_retn, ↓x_retd, ↓x_reto, ↓x_hd, ↓x_ho, ↓x_hn, ↓x_ad, ↓x_ao, ↓x_an, ↓x_set, ↓x_seq, ↓x_next, ↓x_break, ↓x_cont, ↓x_drop, ↓x_ret, ↓x_retN, ↓x_if, ↓x_asg, ↓x_asgG, ↓x_while, ↓x_for, ↓x_2, ↓x_1, ↓x_D, ↓bC_b, ↓x_B, ↓x_and, ↓x_or, ↓x_not, ↓x_andV, ↓x_orV, ↓x_notV, ↓x_tif, ↓x_nil, ↓x_cons, ↓x_tup, ↓x_lst, ↓x_rnil, ↓x_rcons, ↓x_callP, ↓x_rvLc, ↓x_rvLn, ↓x_meth, ↓x_meth0, ↓x_mut, ↓x_mg, ↓x_ms, ↓x_sl, ↓x_on, ↓iC_i, ↓x_os, ↓x_lc, ↓x_any, ↓x_pure, ↓sC_s, ↓x_rev, ↓x_call, ↓x_gn, ↓x_gnil, ↓x_gcons, ↓x_isi, ↓a_ii, ↓a_ss, ↓a_ll, ↓a_tt, ↓a_I, ↓a_neg, ↓a_mul, ↓a_mulL, ↓a_mulS, ↓a_eq, ↓a_ne, ↓a_lt, ↓a_le, ↓a_gt, ↓a_ge, ↓a_ltS, ↓a_leS, ↓a_inS, ↓a_ninS, ↓a_inL, ↓a_ninL, ↓a_inT, ↓a_ninT, ↓a_ixL, ↓a_ixT, ↓a_ixS, ↓a_ixR, ↓a_ixB, ↓a_slL, ↓a_slT, ↓a_slS, ↓a_lenS, ↓a_lenL, ↓a_lenT, ↓a_lenR, ↓a_join, ↓a_ixof, ↓a_ixofL, ↓a_rng1, ↓a_rng2, ↓a_min2, ↓a_max2, ↓a_lstS, ↓a_lstL, ↓a_lstT, ↓a_int, ↓a_intB, ↓a_isN, ↓x_popAt, ↓x_all, ↓x_anyB, ↓a_isB, ↓a_pop, ↓x_dict0, ↓x_aK, ↓x_kg, ↓x_ks, ↓x_dg, ↓x_di, ↓x_dpt, ↓x_enum, ↓a_backL, ↓a_backT, ↓x_never, ↓a_tupL, ↓a_tupT, ↓x_sort, ↓x_sortS, ↓x_sortP, ↓a_slR, ↓x_zip, ↓x_sum, ↓a_count, ↓augC_i, ↓x_aug, ↓x_par, ↓x_raise, ↓x_callX, ↓x_try, ↓x_subA, ↓x_setN, ↓a_two, ↓x_swIx, ↓x_mkX, ↓x_mk0, ↓x_raise0, ↓a_exB, ↓a_tbl, ↓a_cbl, ↓x_isX, ↓x_xattr, rvC_d, rvC_own, consO_s, isTy_s, isTy_l, mgC_own, walk_l, walk_t, walk_s, toR_d, toR_o, items_l, items_t, ok_s, ok_i, ok_b, ok_n, ok_l, ok_t, okL_n, okL_c, e_ss, e_ii, e_bb, e_ll, e_tt, eL_nn, eL_cc, eL_nc, eL_cn, ty_s, ty_i, ty_l, ty_b, kgC_dK, key_i, key_s, kI_eq, kS_eq, oneR_1, walkE_l, walkE_t, walkE_s, ty_t, twoR_2, side_l, side_t, twoD_2, ow_nil, ow_un, ow_d, m_app, m_ext, m_rev, sline, startC, restE, restC, wipeE, wipeC, plainC, List.getElem?_cons_zero, List.getElem?_cons_succ, List.getD_cons_zero, List.getD_cons_succ, List.set_cons_zero, List.set_cons_succ, List.length_cons, List.length_nil, List.map_cons, List.map_nil, List.replicate_succ, List.replicate_zero, List.cons_append, List.nil_append, Nat.reduceAdd, Nat.reduceMul, Int.reduceAdd, Int.reduceSub, Int.reduceMul, Nat.reduceSub, Nat.reduceLT, Nat.reduceLeDiff, Nat.lt_add_one, Int.reduceNeg, Int.reduceLT, Int.reduceLE, Int.reduceToNat, Int.reducePow, Nat.reducePow, List.flatten_cons, List.flatten_nil, List.append_nil, true_and, and_true, true_or, or_true, eq_self, and_self, decide_true, decide_false, Bool.not_true, Bool.not_false, Bool.not_not, Option.isSome_some, Bool.and_true, Bool.true_and, Bool.and_self, reduceIte, ↓reduceIte, Bool.false_eq_true, ite_self, reduceCtorEq, ne_eq, not_false_eq_true, forall_const, ↓x_gtup, ↓a_repr, ↓x_min1, ↓a_min2S, ↓x_yes, ↓x_ite, x_gnil, walk_l, walk_t, walk_s]
    refine opt_of (exA_eq rfl xlk_one) ?_
    simp -dsimp only [↓opt_some, ↓br_true, ↓br_false, ↓nameC_d, ↓nameC_own, ↓nameC_dK, ↓nameC_dT, ↓x_name, ↓fzC_d, ↓fzC_own, ↓x_fzn, ↓x_fzd, ↓x_fzo, ↓x_rvn, ↓x_rvd, ↓x_rvo, ↓retC_d, ↓retC_own, ↓x_retn, ↓x_retd, ↓x_reto, ↓x_hd, ↓x_ho, ↓x_hn, ↓x_ad, ↓x_ao, ↓x_an, ↓x_set, ↓x_seq, ↓x_next, ↓x_break, ↓x_cont, ↓x_drop, ↓x_ret, ↓x_retN, ↓x_if, ↓x_asg, ↓x_asgG, ↓x_while, ↓x_for, ↓x_2, ↓x_1, ↓x_D, ↓bC_b, ↓x_B, ↓x_and, ↓x_or, ↓x_not, ↓x_andV, ↓x_orV, ↓x_notV, ↓x_tif, ↓x_nil, ↓x_cons, ↓x_tup, ↓x_lst, ↓x_rnil, ↓x_rcons, ↓x_callP, ↓x_rvLc, ↓x_rvLn, ↓x_meth, ↓x_meth0, ↓x_mut, ↓x_mg, ↓x_ms, ↓x_sl, ↓x_on, ↓iC_i, ↓x_os, ↓x_lc, ↓x_any, ↓x_pure, ↓sC_s, ↓x_rev, ↓x_call, ↓x_gn, ↓x_gnil, ↓x_gcons, ↓x_isi, ↓a_ii, ↓a_ss, ↓a_ll, ↓a_tt, ↓a_I, ↓a_neg, ↓a_mul, ↓a_mulL, ↓a_mulS, ↓a_eq, ↓a_ne, ↓a_lt, ↓a_le, ↓a_gt, ↓a_ge, ↓a_ltS, ↓a_leS, ↓a_inS, ↓a_ninS, ↓a_inL, ↓a_ninL, ↓a_inT, ↓a_ninT, ↓a_ixL, ↓a_ixT, ↓a_ixS, ↓a_ixR, ↓a_ixB, ↓a_slL, ↓a_slT, ↓a_slS, ↓a_lenS, ↓a_lenL, ↓a_lenT, ↓a_lenR, ↓a_join, ↓a_ixof, ↓a_ixofL, ↓a_rng1, ↓a_rng2, ↓a_min2, ↓a_max2, ↓a_lstS, ↓a_lstL, ↓a_lstT, ↓a_int, ↓a_intB, ↓a_isN, ↓x_popAt, ↓x_all, ↓x_anyB, ↓a_isB, ↓a_pop, ↓x_dict0, ↓x_aK, ↓x_kg, ↓x_ks, ↓x_dg, ↓x_di, ↓x_dpt, ↓x_enum, ↓a_backL, ↓a_backT, ↓x_never, ↓a_tupL, ↓a_tupT, ↓x_sort, ↓x_sortS, ↓x_sortP, ↓a_slR, ↓x_zip, ↓x_sum, ↓a_count, ↓augC_i, ↓x_aug, ↓x_par, ↓x_raise, ↓x_callX, ↓x_try, ↓x_subA, ↓x_setN, ↓a_two, ↓x_swIx, ↓x_mkX, ↓x_mk0, ↓x_raise0, ↓a_exB, ↓a_tbl, ↓a_cbl, ↓x_isX, ↓x_xattr, rvC_d, rvC_own, consO_s, isTy_s, isTy_l, mgC_own, walk_l, walk_t, walk_s, toR_d, toR_o, items_l, items_t, ok_s, ok_i, ok_b, ok_n, ok_l, ok_t, okL_n, okL_c, e_ss, e_ii, e_bb, e_ll, e_tt, eL_nn, eL_cc, eL_nc, eL_cn, ty_s, ty_i, ty_l, ty_b, kgC_dK, key_i, key_s, kI_eq, kS_eq, oneR_1, walkE_l, walkE_t, walkE_s, ty_t, twoR_2, side_l, side_t, twoD_2, ow_nil, ow_un, ow_d, m_app, m_ext, m_rev, sline, startC, restE, restC, wipeE, wipeC, plainC, List.getElem?_cons_zero, List.getElem?_cons_succ, List.getD_cons_zero, List.getD_cons_succ, List.set_cons_zero, List.set_cons_succ, List.length_cons, List.length_nil, List.map_cons, List.map_nil, List.replicate_succ, List.replicate_zero, List.cons_append, List.nil_append, Nat.reduceAdd, Nat.reduceMul, Int.reduceAdd, Int.reduceSub, Int.reduceMul, Nat.reduceSub, Nat.reduceLT, Nat.reduceLeDiff, Nat.lt_add_one, Int.reduceNeg, Int.reduceLT, Int.reduceLE, Int.reduceToNat, Int.reducePow, Nat.reducePow, List.flatten_cons, List.flatten_nil, List.append_nil, true_and, and_true, true_or, or_true, eq_self, and_self, decide_true, decide_false, Bool.not_true, Bool.not_false, Bool.not_not, Option.isSome_some, Bool.and_true, Bool.true_and, Bool.and_self, reduceIte, ↓reduceIte, Bool.false_eq_true, ite_self, reduceCtorEq, ne_eq, not_false_eq_true, forall_const, ↓x_gtup, ↓a_repr, ↓x_min1, ↓a_min2S, ↓x_yes, ↓x_ite, x_gnil, walk_l, walk_t, walk_s]
    exact q
  · exact h.elim
/-! ### the law -/
theorem SM_small {c : Nat} (h : c ∈ SM) : 97 ≤ c ∧ c ≤ 122 := by
  have key : ∀ c ∈ SM, 97 ≤ c ∧ c ≤ 122 := by decide +kernel
  exact key c h
theorem eL_at {n : Int} {w : List Nat} {k : Nat} {x : D} (h : (eL n w)[k]? = some x) : k < 13 ∧ ∃ ns ds, x = .exc k ns ds := by
  have hk : k < 13 := (List.getElem?_eq_some_iff.mp h).1
  refine ⟨hk, ?_⟩
  have cs : k = 0 ∨ k = 1 ∨ k = 2 ∨ k = 3 ∨ k = 4 ∨ k = 5 ∨ k = 6 ∨ k = 7 ∨ k = 8 ∨ k = 9 ∨ k = 10 ∨ k = 11 ∨ k = 12 := by omega
  rcases cs with rfl | rfl | rfl | rfl | rfl | rfl | rfl | rfl | rfl | rfl | rfl | rfl | rfl <;> (cases h; exact ⟨_, _, rfl⟩)
theorem rngI_int {lo : Int} {n : Nat} {d : D} (h : d ∈ rngI lo n) : ∃ i : Int, d = .int i := by
  unfold rngI at h
  obtain ⟨i, _, rfl⟩ := List.mem_map.mp h
  exact ⟨_, rfl⟩
theorem kL_ok : ∀ k < 13, D.okL (kL k) 63 = true := by decide +kernel
theorem kM_ok : ∀ k < 13, D.okL ((rngI 0 13).map (fun d => D.bl (d.eq (.int (k : Nat)))) ++ [.bl true, .bl true]) 63 = true := by decide +kernel
theorem kL_eq : ∀ k < 13, (!D.eqL (kL k) ((rngI 0 13).map (fun d => D.bl (d.eq (.int (k : Nat)))) ++ [.bl true, .bl true])) = false := by decide +kernel
def m_law : PM := fun ds st Q => match ds with
  | [.scr n] => n ≤ 63 ∧ Q (.d (.bl true)) st
  | _ => False
def t_law : PTS := sSeq (sAsg 1 (tCall0 m_law_box (tCons (tName 0) (tCons (tD (.int 0)) (tNil))))) (sSeq (sAsg 2 (tLst (tNil))) (sSeq (sFor (iPure pRng1 (rCons (tD (.int 2)) (rNil))) (gName 3) (sSeq (sAsg 4 (t2 (tLst (tCons (t2 (tCall0 m_law_take (tCons (tName 1) (tCons (tD (.int 9)) (tNil)))) (tD (.int 2)) pSub) (tCons (tCall0 m_law_take (tCons (tName 1) (tCons (t2 (tD (.int 10)) (tD (.int 12)) pPow) (tNil)))) (tNil)))) (tCall0 m_law_take (tCons (tName 1) (tCons (tD (.int 2)) (tNil)))) pIx)) (sSeq (sAsg 5 (tMeth "str" pJoin (tD (.str [])) (rCons (cLc (iPure pRng1 (rCons (tCall0 m_law_take (tCons (tName 1) (tCons (tD (.int 9)) (tNil)))) (rNil))) (gName 10) (cYes) (t2 (tD (.str SM)) (tCall0 m_law_take (tCons (tName 1) (tCons (tD (.int 26)) (tNil)))) pIx) [10]) (rNil)))) (sDrop (tMut mAppend (tName 2) (tCons (tTup (tCons (tName 4) (tCons (tName 5) (tCons (tCall0 m_law_made (tCons (tName 4) (tCons (tName 5) (tNil)))) (tNil))))) (tNil))))))) (sSeq (sFor (iAny (tName 2)) (gTup 3 (gCons (gName 4) (gCons (gName 5) (gCons (gName 6) (gNil))))) (sSeq (sIf (tB (t2 (tCallP pRepr (rCons (tCall0 m_law_fields (tCons (tName 6) (tNil))) (rNil))) (tCallP pRepr (rCons (t2 (tLst (tCons (tName 4) (tCons (tName 4) (tCons (tName 5) (tCons (tName 4) (tCons (tName 4) (tCons (tName 4) (tNil)))))))) (t2 (tLst (tCons (tName 5) (tNil))) (tD (.int 4)) pMul) pAdd) (rNil))) pNe)) (sRet (tD (.bl false))) (sNext)) (sSeq (sFor (iEnumP (rCons (tName 6) (rNil))) (gTup 2 (gCons (gName 3) (gCons (gName 7) (gNil)))) (sIf (tB (t2 (tCall0 m_law_kinds (tCons (tName 7) (tNil))) (t2 (cLc (iPure pRng1 (rCons (tD (.int 13)) (rNil))) (gName 10) (cYes) (t2 (tName 10) (tName 3) pEq) [10]) (tLst (tCons (tD (.bl true)) (tCons (tD (.bl true)) (tNil)))) pAdd) pNe)) (sRet (tD (.bl false))) (sNext))) (sFor (iAny (tTup (tCons (tTup (tCons (tD (.int 0)) (tCons (tD (.int 2)) (tNil)))) (tCons (tTup (tCons (tD (.int 1)) (tCons (tD (.int 8)) (tNil)))) (tCons (tTup (tCons (tD (.int 2)) (tCons (tD (.int 11)) (tNil)))) (tNil)))))) (gTup 2 (gCons (gName 8) (gCons (gName 9) (gNil)))) (sIf (tB (t2 (tCall0 m_law_kinds (tCons (tCall0 m_law_caught (tCons (tName 8) (tCons (tName 4) (tCons (tName 5) (tNil))))) (tNil))) (tCall0 m_law_kinds (tCons (t2 (tName 6) (tName 9) pIx) (tNil))) pNe)) (sRet (tD (.bl false))) (sNext)))))) (sRet (tD (.bl true))))))
abbrev N_law : List Str := ["_law_script", "_law_box_here", "_law_both", "_law_k", "_law_number", "_law_word", "_law_made_here", "_law_e", "_law_way", "_law_at", "_law_j"]
theorem len_law (ds : List D) (s : Sto) (Q : C → Sto → Prop) (h : m_law ds s Q) : ds.length = 1 := by
  unfold m_law at h
  split at h
  · rfl
  · exact h.elim
theorem law_m (n : Nat) (s : Sto) (Q : C → Sto → Prop) (h : n ≤ 63) (q : Q (.d (.bl true)) s) : m_law [.scr n] s Q := ⟨h, q⟩
def bD (p : Int × List Nat) : D := .tup [.int p.1, .str p.2, .lst (eL p.1 p.2)]
def BOk (p : Int × List Nat) : Prop := -2 ≤ p.1 ∧ p.1 < 10 ^ 12 ∧ p.2.length ≤ 9 ∧ ∀ c ∈ p.2, c ∈ SM
theorem p_law (ds : List D) (s : Sto) (Q : C → Sto → Prop) (h : m_law ds s Q) : t_law noX { nx := fun e => Q (.d .non) e.st, rt := fun c e => Q c e.st } ⟨startC N_law ds, s⟩ := by
  unfold m_law at h
  split at h
  · rename_i n
    obtain ⟨hn, q⟩ := h
    unfold t_law
    simp -dsimp only [↓opt_some, ↓br_true, ↓br_false, ↓nameC_d, ↓nameC_own, ↓nameC_dK, ↓nameC_dT, ↓x_name, ↓fzC_d, ↓fzC_own, ↓x_fzn, ↓x_fzd, ↓x_fzo, ↓x_rvn, ↓x_rvd, ↓x_rvo, ↓retC_d, ↓retC_own, ↓x_retn, ↓x_retd, ↓x_reto, ↓x_hd, ↓x_ho, ↓x_hn, ↓x_ad, ↓x_ao, ↓x_an, ↓x_set, ↓x_seq, ↓x_next, ↓x_break, ↓x_cont, ↓x_drop, ↓x_ret, ↓x_retN, ↓x_if, ↓x_asg, ↓x_asgG, ↓x_while, ↓x_for, ↓x_2, ↓x_1, ↓x_D, ↓bC_b, ↓x_B, ↓x_and, ↓x_or, ↓x_not, ↓x_andV, ↓x_orV, ↓x_notV, ↓x_tif, ↓x_nil, ↓x_cons, ↓x_tup, ↓x_lst, ↓x_rnil, ↓x_rcons, ↓x_callP, ↓x_rvLc, ↓x_rvLn, ↓x_meth, ↓x_meth0, ↓x_mut, ↓x_mg, ↓x_ms, ↓x_sl, ↓x_on, ↓iC_i, ↓x_os, ↓x_lc, ↓x_any, ↓x_pure, ↓sC_s, ↓x_rev, ↓x_call, ↓x_gn, ↓x_gnil, ↓x_gcons, ↓x_isi, ↓a_ii, ↓a_ss, ↓a_ll, ↓a_tt, ↓a_I, ↓a_neg, ↓a_mul, ↓a_mulL, ↓a_mulS, ↓a_eq, ↓a_ne, ↓a_lt, ↓a_le, ↓a_gt, ↓a_ge, ↓a_ltS, ↓a_leS, ↓a_inS, ↓a_ninS, ↓a_inL, ↓a_ninL, ↓a_inT, ↓a_ninT, ↓a_ixL, ↓a_ixT, ↓a_ixS, ↓a_ixR, ↓a_ixB, ↓a_slL, ↓a_slT, ↓a_slS, ↓a_lenS, ↓a_lenL, ↓a_lenT, ↓a_lenR, ↓a_join, ↓a_ixof, ↓a_ixofL, ↓a_rng1, ↓a_rng2, ↓a_min2, ↓a_max2, ↓a_lstS, ↓a_lstL, ↓a_lstT, ↓a_int, ↓a_intB, ↓a_isN, ↓x_popAt, ↓x_all, ↓x_anyB, ↓a_isB, ↓a_pop, ↓x_dict0, ↓x_aK, ↓x_kg, ↓x_ks, ↓x_dg, ↓x_di, ↓x_dpt, ↓x_enum, ↓a_backL, ↓a_backT, ↓x_never, ↓a_tupL, ↓a_tupT, ↓x_sort, ↓x_sortS, ↓x_sortP, ↓a_slR, ↓x_zip, ↓x_sum, ↓a_count, ↓augC_i, ↓x_aug, ↓x_par, ↓x_raise, ↓x_callX, ↓x_try, ↓x_subA, ↓x_setN, ↓a_two, ↓x_swIx, ↓x_mkX, ↓x_mk0, ↓x_raise0, ↓a_exB, ↓a_tbl, ↓a_cbl, ↓x_isX, ↓x_xattr, rvC_d, rvC_own, consO_s, isTy_s, isTy_l, mgC_own, walk_l, walk_t, walk_s, toR_d, toR_o, items_l, items_t, ok_s, ok_i, ok_b, ok_n, ok_l, ok_t, okL_n, okL_c, e_ss, e_ii, e_bb, e_ll, e_tt, eL_nn, eL_cc, eL_nc, eL_cn, ty_s, ty_i, ty_l, ty_b, kgC_dK, key_i, key_s, kI_eq, kS_eq, oneR_1, walkE_l, walkE_t, walkE_s, ty_t, twoR_2, side_l, side_t, twoD_2, ow_nil, ow_un, ow_d, m_app, m_ext, m_rev, sline, startC, restE, restC, wipeE, wipeC, plainC, List.getElem?_cons_zero, List.getElem?_cons_succ, List.getD_cons_zero, List.getD_cons_succ, List.set_cons_zero, List.set_cons_succ, List.length_cons, List.length_nil, List.map_cons, List.map_nil, List.replicate_succ, List.replicate_zero, List.cons_append, List.nil_append, Nat.reduceAdd, Nat.reduceMul, Int.reduceAdd, Int.reduceSub, Int.reduceMul, Nat.reduceSub, Nat.reduceLT, Nat.reduceLeDiff, Nat.lt_add_one, Int.reduceNeg, Int.reduceLT, Int.reduceLE, Int.reduceToNat, Int.reducePow, Nat.reducePow, List.flatten_cons, List.flatten_nil, List.append_nil, true_and, and_true, true_or, or_true, eq_self, and_self, decide_true, decide_false, Bool.not_true, Bool.not_false, Bool.not_not, Option.isSome_some, Bool.and_true, Bool.true_and, Bool.and_self, reduceIte, ↓reduceIte, Bool.false_eq_true, ite_self, reduceCtorEq, ne_eq, not_false_eq_true, forall_const, ↓x_gtup, ↓a_repr, ↓x_min1, ↓a_min2S, ↓x_yes, ↓x_ite, x_gnil, walk_l, walk_t, walk_s, e_box]
    refine forH_rng 0 2 (fun j e => ∃ (L : List (Int × List Nat)) (c3 c4 c5 : C), L.length = j ∧ (∀ p ∈ L, BOk p) ∧ e = ⟨[.d (.scr n), .d .box, .own (L.map bD), c3, c4, c5, .un, .un, .un, .un, .un], s⟩) ⟨[], _, _, _, rfl, by simp, rfl⟩ ?_ ?_
    · rintro e ⟨L, c3, c4, c5, hl, hL, rfl⟩
      simp -dsimp only [↓opt_some, ↓br_true, ↓br_false, ↓nameC_d, ↓nameC_own, ↓nameC_dK, ↓nameC_dT, ↓x_name, ↓fzC_d, ↓fzC_own, ↓x_fzn, ↓x_fzd, ↓x_fzo, ↓x_rvn, ↓x_rvd, ↓x_rvo, ↓retC_d, ↓retC_own, ↓x_retn, ↓x_retd, ↓x_reto, ↓x_hd, ↓x_ho, ↓x_hn, ↓x_ad, ↓x_ao, ↓x_an, ↓x_set, ↓x_seq, ↓x_next, ↓x_break, ↓x_cont, ↓x_drop, ↓x_ret, ↓x_retN, ↓x_if, ↓x_asg, ↓x_asgG, ↓x_while, ↓x_for, ↓x_2, ↓x_1, ↓x_D, ↓bC_b, ↓x_B, ↓x_and, ↓x_or, ↓x_not, ↓x_andV, ↓x_orV, ↓x_notV, ↓x_tif, ↓x_nil, ↓x_cons, ↓x_tup, ↓x_lst, ↓x_rnil, ↓x_rcons, ↓x_callP, ↓x_rvLc, ↓x_rvLn, ↓x_meth, ↓x_meth0, ↓x_mut, ↓x_mg, ↓x_ms, ↓x_sl, ↓x_on, ↓iC_i, ↓x_os, ↓x_lc, ↓x_any, ↓x_pure, ↓sC_s, ↓x_rev, ↓x_call, ↓x_gn, ↓x_gnil, ↓x_gcons, ↓x_isi, ↓a_ii, ↓a_ss, ↓a_ll, ↓a_tt, ↓a_I, ↓a_neg, ↓a_mul, ↓a_mulL, ↓a_mulS, ↓a_eq, ↓a_ne, ↓a_lt, ↓a_le, ↓a_gt, ↓a_ge, ↓a_ltS, ↓a_leS, ↓a_inS, ↓a_ninS, ↓a_inL, ↓a_ninL, ↓a_inT, ↓a_ninT, ↓a_ixL, ↓a_ixT, ↓a_ixS, ↓a_ixR, ↓a_ixB, ↓a_slL, ↓a_slT, ↓a_slS, ↓a_lenS, ↓a_lenL, ↓a_lenT, ↓a_lenR, ↓a_join, ↓a_ixof, ↓a_ixofL, ↓a_rng1, ↓a_rng2, ↓a_min2, ↓a_max2, ↓a_lstS, ↓a_lstL, ↓a_lstT, ↓a_int, ↓a_intB, ↓a_isN, ↓x_popAt, ↓x_all, ↓x_anyB, ↓a_isB, ↓a_pop, ↓x_dict0, ↓x_aK, ↓x_kg, ↓x_ks, ↓x_dg, ↓x_di, ↓x_dpt, ↓x_enum, ↓a_backL, ↓a_backT, ↓x_never, ↓a_tupL, ↓a_tupT, ↓x_sort, ↓x_sortS, ↓x_sortP, ↓a_slR, ↓x_zip, ↓x_sum, ↓a_count, ↓augC_i, ↓x_aug, ↓x_par, ↓x_raise, ↓x_callX, ↓x_try, ↓x_subA, ↓x_setN, ↓a_two, ↓x_swIx, ↓x_mkX, ↓x_mk0, ↓x_raise0, ↓a_exB, ↓a_tbl, ↓a_cbl, ↓x_isX, ↓x_xattr, rvC_d, rvC_own, consO_s, isTy_s, isTy_l, mgC_own, walk_l, walk_t, walk_s, toR_d, toR_o, items_l, items_t, ok_s, ok_i, ok_b, ok_n, ok_l, ok_t, okL_n, okL_c, e_ss, e_ii, e_bb, e_ll, e_tt, eL_nn, eL_cc, eL_nc, eL_cn, ty_s, ty_i, ty_l, ty_b, kgC_dK, key_i, key_s, kI_eq, kS_eq, oneR_1, walkE_l, walkE_t, walkE_s, ty_t, twoR_2, side_l, side_t, twoD_2, ow_nil, ow_un, ow_d, m_app, m_ext, m_rev, sline, startC, restE, restC, wipeE, wipeC, plainC, List.getElem?_cons_zero, List.getElem?_cons_succ, List.getD_cons_zero, List.getD_cons_succ, List.set_cons_zero, List.set_cons_succ, List.length_cons, List.length_nil, List.map_cons, List.map_nil, List.replicate_succ, List.replicate_zero, List.cons_append, List.nil_append, Nat.reduceAdd, Nat.reduceMul, Int.reduceAdd, Int.reduceSub, Int.reduceMul, Nat.reduceSub, Nat.reduceLT, Nat.reduceLeDiff, Nat.lt_add_one, Int.reduceNeg, Int.reduceLT, Int.reduceLE, Int.reduceToNat, Int.reducePow, Nat.reducePow, List.flatten_cons, List.flatten_nil, List.append_nil, true_and, and_true, true_or, or_true, eq_self, and_self, decide_true, decide_false, Bool.not_true, Bool.not_false, Bool.not_not, Option.isSome_some, Bool.and_true, Bool.true_and, Bool.and_self, reduceIte, ↓reduceIte, Bool.false_eq_true, ite_self, reduceCtorEq, ne_eq, not_false_eq_true, forall_const, ↓x_gtup, ↓a_repr, ↓x_min1, ↓a_min2S, ↓x_yes, ↓x_ite, x_gnil, walk_l, walk_t, walk_s]
      refine forH_map bD L (fun _ _ e => ∃ c3 c4 c5 c6 c7 c8 c9 : C, e = ⟨[.d (.scr n), .d .box, .d (.lst (L.map bD)), c3, c4, c5, c6, c7, c8, c9, .un], s⟩) ⟨_, _, _, _, _, _, _, rfl⟩ ?_ ?_
      · rintro e ⟨c3, c4, c5, c6, c7, c8, c9, rfl⟩
        simp -dsimp only [↓opt_some, ↓br_true, ↓br_false, ↓nameC_d, ↓nameC_own, ↓nameC_dK, ↓nameC_dT, ↓x_name, ↓fzC_d, ↓fzC_own, ↓x_fzn, ↓x_fzd, ↓x_fzo, ↓x_rvn, ↓x_rvd, ↓x_rvo, ↓retC_d, ↓retC_own, ↓x_retn, ↓x_retd, ↓x_reto, ↓x_hd, ↓x_ho, ↓x_hn, ↓x_ad, ↓x_ao, ↓x_an, ↓x_set, ↓x_seq, ↓x_next, ↓x_break, ↓x_cont, ↓x_drop, ↓x_ret, ↓x_retN, ↓x_if, ↓x_asg, ↓x_asgG, ↓x_while, ↓x_for, ↓x_2, ↓x_1, ↓x_D, ↓bC_b, ↓x_B, ↓x_and, ↓x_or, ↓x_not, ↓x_andV, ↓x_orV, ↓x_notV, ↓x_tif, ↓x_nil, ↓x_cons, ↓x_tup, ↓x_lst, ↓x_rnil, ↓x_rcons, ↓x_callP, ↓x_rvLc, ↓x_rvLn, ↓x_meth, ↓x_meth0, ↓x_mut, ↓x_mg, ↓x_ms, ↓x_sl, ↓x_on, ↓iC_i, ↓x_os, ↓x_lc, ↓x_any, ↓x_pure, ↓sC_s, ↓x_rev, ↓x_call, ↓x_gn, ↓x_gnil, ↓x_gcons, ↓x_isi, ↓a_ii, ↓a_ss, ↓a_ll, ↓a_tt, ↓a_I, ↓a_neg, ↓a_mul, ↓a_mulL, ↓a_mulS, ↓a_eq, ↓a_ne, ↓a_lt, ↓a_le, ↓a_gt, ↓a_ge, ↓a_ltS, ↓a_leS, ↓a_inS, ↓a_ninS, ↓a_inL, ↓a_ninL, ↓a_inT, ↓a_ninT, ↓a_ixL, ↓a_ixT, ↓a_ixS, ↓a_ixR, ↓a_ixB, ↓a_slL, ↓a_slT, ↓a_slS, ↓a_lenS, ↓a_lenL, ↓a_lenT, ↓a_lenR, ↓a_join, ↓a_ixof, ↓a_ixofL, ↓a_rng1, ↓a_rng2, ↓a_min2, ↓a_max2, ↓a_lstS, ↓a_lstL, ↓a_lstT, ↓a_int, ↓a_intB, ↓a_isN, ↓x_popAt, ↓x_all, ↓x_anyB, ↓a_isB, ↓a_pop, ↓x_dict0, ↓x_aK, ↓x_kg, ↓x_ks, ↓x_dg, ↓x_di, ↓x_dpt, ↓x_enum, ↓a_backL, ↓a_backT, ↓x_never, ↓a_tupL, ↓a_tupT, ↓x_sort, ↓x_sortS, ↓x_sortP, ↓a_slR, ↓x_zip, ↓x_sum, ↓a_count, ↓augC_i, ↓x_aug, ↓x_par, ↓x_raise, ↓x_callX, ↓x_try, ↓x_subA, ↓x_setN, ↓a_two, ↓x_swIx, ↓x_mkX, ↓x_mk0, ↓x_raise0, ↓a_exB, ↓a_tbl, ↓a_cbl, ↓x_isX, ↓x_xattr, rvC_d, rvC_own, consO_s, isTy_s, isTy_l, mgC_own, walk_l, walk_t, walk_s, toR_d, toR_o, items_l, items_t, ok_s, ok_i, ok_b, ok_n, ok_l, ok_t, okL_n, okL_c, e_ss, e_ii, e_bb, e_ll, e_tt, eL_nn, eL_cc, eL_nc, eL_cn, ty_s, ty_i, ty_l, ty_b, kgC_dK, key_i, key_s, kI_eq, kS_eq, oneR_1, walkE_l, walkE_t, walkE_s, ty_t, twoR_2, side_l, side_t, twoD_2, ow_nil, ow_un, ow_d, m_app, m_ext, m_rev, sline, startC, restE, restC, wipeE, wipeC, plainC, List.getElem?_cons_zero, List.getElem?_cons_succ, List.getD_cons_zero, List.getD_cons_succ, List.set_cons_zero, List.set_cons_succ, List.length_cons, List.length_nil, List.map_cons, List.map_nil, List.replicate_succ, List.replicate_zero, List.cons_append, List.nil_append, Nat.reduceAdd, Nat.reduceMul, Int.reduceAdd, Int.reduceSub, Int.reduceMul, Nat.reduceSub, Nat.reduceLT, Nat.reduceLeDiff, Nat.lt_add_one, Int.reduceNeg, Int.reduceLT, Int.reduceLE, Int.reduceToNat, Int.reducePow, Nat.reducePow, List.flatten_cons, List.flatten_nil, List.append_nil, true_and, and_true, true_or, or_true, eq_self, and_self, decide_true, decide_false, Bool.not_true, Bool.not_false, Bool.not_not, Option.isSome_some, Bool.and_true, Bool.true_and, Bool.and_self, reduceIte, ↓reduceIte, Bool.false_eq_true, ite_self, reduceCtorEq, ne_eq, not_false_eq_true, forall_const, ↓x_gtup, ↓a_repr, ↓x_min1, ↓a_min2S, ↓x_yes, ↓x_ite, x_gnil, walk_l, walk_t, walk_s]
        exact q
      · rintro pre ⟨v, w⟩ suf e hp ⟨c3, c4, c5, c6, c7, c8, c9, rfl⟩ N hN
        obtain ⟨v0, v1, wl, wm⟩ := hL (v, w) (by rw [← hp]; simp)
        simp -dsimp only [↓opt_some, ↓br_true, ↓br_false, ↓nameC_d, ↓nameC_own, ↓nameC_dK, ↓nameC_dT, ↓x_name, ↓fzC_d, ↓fzC_own, ↓x_fzn, ↓x_fzd, ↓x_fzo, ↓x_rvn, ↓x_rvd, ↓x_rvo, ↓retC_d, ↓retC_own, ↓x_retn, ↓x_retd, ↓x_reto, ↓x_hd, ↓x_ho, ↓x_hn, ↓x_ad, ↓x_ao, ↓x_an, ↓x_set, ↓x_seq, ↓x_next, ↓x_break, ↓x_cont, ↓x_drop, ↓x_ret, ↓x_retN, ↓x_if, ↓x_asg, ↓x_asgG, ↓x_while, ↓x_for, ↓x_2, ↓x_1, ↓x_D, ↓bC_b, ↓x_B, ↓x_and, ↓x_or, ↓x_not, ↓x_andV, ↓x_orV, ↓x_notV, ↓x_tif, ↓x_nil, ↓x_cons, ↓x_tup, ↓x_lst, ↓x_rnil, ↓x_rcons, ↓x_callP, ↓x_rvLc, ↓x_rvLn, ↓x_meth, ↓x_meth0, ↓x_mut, ↓x_mg, ↓x_ms, ↓x_sl, ↓x_on, ↓iC_i, ↓x_os, ↓x_lc, ↓x_any, ↓x_pure, ↓sC_s, ↓x_rev, ↓x_call, ↓x_gn, ↓x_gnil, ↓x_gcons, ↓x_isi, ↓a_ii, ↓a_ss, ↓a_ll, ↓a_tt, ↓a_I, ↓a_neg, ↓a_mul, ↓a_mulL, ↓a_mulS, ↓a_eq, ↓a_ne, ↓a_lt, ↓a_le, ↓a_gt, ↓a_ge, ↓a_ltS, ↓a_leS, ↓a_inS, ↓a_ninS, ↓a_inL, ↓a_ninL, ↓a_inT, ↓a_ninT, ↓a_ixL, ↓a_ixT, ↓a_ixS, ↓a_ixR, ↓a_ixB, ↓a_slL, ↓a_slT, ↓a_slS, ↓a_lenS, ↓a_lenL, ↓a_lenT, ↓a_lenR, ↓a_join, ↓a_ixof, ↓a_ixofL, ↓a_rng1, ↓a_rng2, ↓a_min2, ↓a_max2, ↓a_lstS, ↓a_lstL, ↓a_lstT, ↓a_int, ↓a_intB, ↓a_isN, ↓x_popAt, ↓x_all, ↓x_anyB, ↓a_isB, ↓a_pop, ↓x_dict0, ↓x_aK, ↓x_kg, ↓x_ks, ↓x_dg, ↓x_di, ↓x_dpt, ↓x_enum, ↓a_backL, ↓a_backT, ↓x_never, ↓a_tupL, ↓a_tupT, ↓x_sort, ↓x_sortS, ↓x_sortP, ↓a_slR, ↓x_zip, ↓x_sum, ↓a_count, ↓augC_i, ↓x_aug, ↓x_par, ↓x_raise, ↓x_callX, ↓x_try, ↓x_subA, ↓x_setN, ↓a_two, ↓x_swIx, ↓x_mkX, ↓x_mk0, ↓x_raise0, ↓a_exB, ↓a_tbl, ↓a_cbl, ↓x_isX, ↓x_xattr, rvC_d, rvC_own, consO_s, isTy_s, isTy_l, mgC_own, walk_l, walk_t, walk_s, toR_d, toR_o, items_l, items_t, ok_s, ok_i, ok_b, ok_n, ok_l, ok_t, okL_n, okL_c, e_ss, e_ii, e_bb, e_ll, e_tt, eL_nn, eL_cc, eL_nc, eL_cn, ty_s, ty_i, ty_l, ty_b, kgC_dK, key_i, key_s, kI_eq, kS_eq, oneR_1, walkE_l, walkE_t, walkE_s, ty_t, twoR_2, side_l, side_t, twoD_2, ow_nil, ow_un, ow_d, m_app, m_ext, m_rev, sline, startC, restE, restC, wipeE, wipeC, plainC, List.getElem?_cons_zero, List.getElem?_cons_succ, List.getD_cons_zero, List.getD_cons_succ, List.set_cons_zero, List.set_cons_succ, List.length_cons, List.length_nil, List.map_cons, List.map_nil, List.replicate_succ, List.replicate_zero, List.cons_append, List.nil_append, Nat.reduceAdd, Nat.reduceMul, Int.reduceAdd, Int.reduceSub, Int.reduceMul, Nat.reduceSub, Nat.reduceLT, Nat.reduceLeDiff, Nat.lt_add_one, Int.reduceNeg, Int.reduceLT, Int.reduceLE, Int.reduceToNat, Int.reducePow, Nat.reducePow, List.flatten_cons, List.flatten_nil, List.append_nil, true_and, and_true, true_or, or_true, eq_self, and_self, decide_true, decide_false, Bool.not_true, Bool.not_false, Bool.not_not, Option.isSome_some, Bool.and_true, Bool.true_and, Bool.and_self, reduceIte, ↓reduceIte, Bool.false_eq_true, ite_self, reduceCtorEq, ne_eq, not_false_eq_true, forall_const, ↓x_gtup, ↓a_repr, ↓x_min1, ↓a_min2S, ↓x_yes, ↓x_ite, x_gnil, walk_l, walk_t, walk_s, bD]
        refine ⟨v, w, rfl, ?_⟩
        simp -dsimp only [↓opt_some, ↓br_true, ↓br_false, ↓nameC_d, ↓nameC_own, ↓nameC_dK, ↓nameC_dT, ↓x_name, ↓fzC_d, ↓fzC_own, ↓x_fzn, ↓x_fzd, ↓x_fzo, ↓x_rvn, ↓x_rvd, ↓x_rvo, ↓retC_d, ↓retC_own, ↓x_retn, ↓x_retd, ↓x_reto, ↓x_hd, ↓x_ho, ↓x_hn, ↓x_ad, ↓x_ao, ↓x_an, ↓x_set, ↓x_seq, ↓x_next, ↓x_break, ↓x_cont, ↓x_drop, ↓x_ret, ↓x_retN, ↓x_if, ↓x_asg, ↓x_asgG, ↓x_while, ↓x_for, ↓x_2, ↓x_1, ↓x_D, ↓bC_b, ↓x_B, ↓x_and, ↓x_or, ↓x_not, ↓x_andV, ↓x_orV, ↓x_notV, ↓x_tif, ↓x_nil, ↓x_cons, ↓x_tup, ↓x_lst, ↓x_rnil, ↓x_rcons, ↓x_callP, ↓x_rvLc, ↓x_rvLn, ↓x_meth, ↓x_meth0, ↓x_mut, ↓x_mg, ↓x_ms, ↓x_sl, ↓x_on, ↓iC_i, ↓x_os, ↓x_lc, ↓x_any, ↓x_pure, ↓sC_s, ↓x_rev, ↓x_call, ↓x_gn, ↓x_gnil, ↓x_gcons, ↓x_isi, ↓a_ii, ↓a_ss, ↓a_ll, ↓a_tt, ↓a_I, ↓a_neg, ↓a_mul, ↓a_mulL, ↓a_mulS, ↓a_eq, ↓a_ne, ↓a_lt, ↓a_le, ↓a_gt, ↓a_ge, ↓a_ltS, ↓a_leS, ↓a_inS, ↓a_ninS, ↓a_inL, ↓a_ninL, ↓a_inT, ↓a_ninT, ↓a_ixL, ↓a_ixT, ↓a_ixS, ↓a_ixR, ↓a_ixB, ↓a_slL, ↓a_slT, ↓a_slS, ↓a_lenS, ↓a_lenL, ↓a_lenT, ↓a_lenR, ↓a_join, ↓a_ixof, ↓a_ixofL, ↓a_rng1, ↓a_rng2, ↓a_min2, ↓a_max2, ↓a_lstS, ↓a_lstL, ↓a_lstT, ↓a_int, ↓a_intB, ↓a_isN, ↓x_popAt, ↓x_all, ↓x_anyB, ↓a_isB, ↓a_pop, ↓x_dict0, ↓x_aK, ↓x_kg, ↓x_ks, ↓x_dg, ↓x_di, ↓x_dpt, ↓x_enum, ↓a_backL, ↓a_backT, ↓x_never, ↓a_tupL, ↓a_tupT, ↓x_sort, ↓x_sortS, ↓x_sortP, ↓a_slR, ↓x_zip, ↓x_sum, ↓a_count, ↓augC_i, ↓x_aug, ↓x_par, ↓x_raise, ↓x_callX, ↓x_try, ↓x_subA, ↓x_setN, ↓a_two, ↓x_swIx, ↓x_mkX, ↓x_mk0, ↓x_raise0, ↓a_exB, ↓a_tbl, ↓a_cbl, ↓x_isX, ↓x_xattr, rvC_d, rvC_own, consO_s, isTy_s, isTy_l, mgC_own, walk_l, walk_t, walk_s, toR_d, toR_o, items_l, items_t, ok_s, ok_i, ok_b, ok_n, ok_l, ok_t, okL_n, okL_c, e_ss, e_ii, e_bb, e_ll, e_tt, eL_nn, eL_cc, eL_nc, eL_cn, ty_s, ty_i, ty_l, ty_b, kgC_dK, key_i, key_s, kI_eq, kS_eq, oneR_1, walkE_l, walkE_t, walkE_s, ty_t, twoR_2, side_l, side_t, twoD_2, ow_nil, ow_un, ow_d, m_app, m_ext, m_rev, sline, startC, restE, restC, wipeE, wipeC, plainC, List.getElem?_cons_zero, List.getElem?_cons_succ, List.getD_cons_zero, List.getD_cons_succ, List.set_cons_zero, List.set_cons_succ, List.length_cons, List.length_nil, List.map_cons, List.map_nil, List.replicate_succ, List.replicate_zero, List.cons_append, List.nil_append, Nat.reduceAdd, Nat.reduceMul, Int.reduceAdd, Int.reduceSub, Int.reduceMul, Nat.reduceSub, Nat.reduceLT, Nat.reduceLeDiff, Nat.lt_add_one, Int.reduceNeg, Int.reduceLT, Int.reduceLE, Int.reduceToNat, Int.reducePow, Nat.reducePow, List.flatten_cons, List.flatten_nil, List.append_nil, true_and, and_true, true_or, or_true, eq_self, and_self, decide_true, decide_false, Bool.not_true, Bool.not_false, Bool.not_not, Option.isSome_some, Bool.and_true, Bool.true_and, Bool.and_self, reduceIte, ↓reduceIte, Bool.false_eq_true, ite_self, reduceCtorEq, ne_eq, not_false_eq_true, forall_const, ↓x_gtup, ↓a_repr, ↓x_min1, ↓a_min2S, ↓x_yes, ↓x_ite, x_gnil, walk_l, walk_t, walk_s]
        have v0 : -2 ≤ v := v0
        have v1 : v < 10 ^ 12 := v1
        have wl : w.length ≤ 9 := wl
        have wm : ∀ c ∈ w, c ∈ SM := wm
        have h1 : v.natAbs.log2 < 1920 := by
          by_cases z : v.natAbs = 0
          · rw [z]; decide
          · have := (Nat.log2_lt (k := 64) z).mpr (by omega)
            omega
        have h2 : ∀ c ∈ w, PlainC c := fun c hc => by
          have := SM_small (wm c hc)
          unfold PlainC
          omega
        have rk : (D.lst (fL v w)).rok = true := by
          simp only [fL, D.rok, D.rokL, h1, decide_true, Bool.true_and, Bool.and_true, Bool.and_self]
          exact List.all_eq_true.mpr fun c hc => decide_eq_true (h2 c hc)
        have rl : (D.lst (fL v w)).rlen ≤ 16777216 := by
          simp only [fL, D.rlen, D.rlenL]
          omega
        refine ⟨rfl, rk, rl, rk, rl, br_neg (by show (!decide (shw (D.lst (fL v w)) = shw (D.lst (fL v w)))) = false; simp) ?_⟩
        simp -dsimp only [↓opt_some, ↓br_true, ↓br_false, ↓nameC_d, ↓nameC_own, ↓nameC_dK, ↓nameC_dT, ↓x_name, ↓fzC_d, ↓fzC_own, ↓x_fzn, ↓x_fzd, ↓x_fzo, ↓x_rvn, ↓x_rvd, ↓x_rvo, ↓retC_d, ↓retC_own, ↓x_retn, ↓x_retd, ↓x_reto, ↓x_hd, ↓x_ho, ↓x_hn, ↓x_ad, ↓x_ao, ↓x_an, ↓x_set, ↓x_seq, ↓x_next, ↓x_break, ↓x_cont, ↓x_drop, ↓x_ret, ↓x_retN, ↓x_if, ↓x_asg, ↓x_asgG, ↓x_while, ↓x_for, ↓x_2, ↓x_1, ↓x_D, ↓bC_b, ↓x_B, ↓x_and, ↓x_or, ↓x_not, ↓x_andV, ↓x_orV, ↓x_notV, ↓x_tif, ↓x_nil, ↓x_cons, ↓x_tup, ↓x_lst, ↓x_rnil, ↓x_rcons, ↓x_callP, ↓x_rvLc, ↓x_rvLn, ↓x_meth, ↓x_meth0, ↓x_mut, ↓x_mg, ↓x_ms, ↓x_sl, ↓x_on, ↓iC_i, ↓x_os, ↓x_lc, ↓x_any, ↓x_pure, ↓sC_s, ↓x_rev, ↓x_call, ↓x_gn, ↓x_gnil, ↓x_gcons, ↓x_isi, ↓a_ii, ↓a_ss, ↓a_ll, ↓a_tt, ↓a_I, ↓a_neg, ↓a_mul, ↓a_mulL, ↓a_mulS, ↓a_eq, ↓a_ne, ↓a_lt, ↓a_le, ↓a_gt, ↓a_ge, ↓a_ltS, ↓a_leS, ↓a_inS, ↓a_ninS, ↓a_inL, ↓a_ninL, ↓a_inT, ↓a_ninT, ↓a_ixL, ↓a_ixT, ↓a_ixS, ↓a_ixR, ↓a_ixB, ↓a_slL, ↓a_slT, ↓a_slS, ↓a_lenS, ↓a_lenL, ↓a_lenT, ↓a_lenR, ↓a_join, ↓a_ixof, ↓a_ixofL, ↓a_rng1, ↓a_rng2, ↓a_min2, ↓a_max2, ↓a_lstS, ↓a_lstL, ↓a_lstT, ↓a_int, ↓a_intB, ↓a_isN, ↓x_popAt, ↓x_all, ↓x_anyB, ↓a_isB, ↓a_pop, ↓x_dict0, ↓x_aK, ↓x_kg, ↓x_ks, ↓x_dg, ↓x_di, ↓x_dpt, ↓x_enum, ↓a_backL, ↓a_backT, ↓x_never, ↓a_tupL, ↓a_tupT, ↓x_sort, ↓x_sortS, ↓x_sortP, ↓a_slR, ↓x_zip, ↓x_sum, ↓a_count, ↓augC_i, ↓x_aug, ↓x_par, ↓x_raise, ↓x_callX, ↓x_try, ↓x_subA, ↓x_setN, ↓a_two, ↓x_swIx, ↓x_mkX, ↓x_mk0, ↓x_raise0, ↓a_exB, ↓a_tbl, ↓a_cbl, ↓x_isX, ↓x_xattr, rvC_d, rvC_own, consO_s, isTy_s, isTy_l, mgC_own, walk_l, walk_t, walk_s, toR_d, toR_o, items_l, items_t, ok_s, ok_i, ok_b, ok_n, ok_l, ok_t, okL_n, okL_c, e_ss, e_ii, e_bb, e_ll, e_tt, eL_nn, eL_cc, eL_nc, eL_cn, ty_s, ty_i, ty_l, ty_b, kgC_dK, key_i, key_s, kI_eq, kS_eq, oneR_1, walkE_l, walkE_t, walkE_s, ty_t, twoR_2, side_l, side_t, twoD_2, ow_nil, ow_un, ow_d, m_app, m_ext, m_rev, sline, startC, restE, restC, wipeE, wipeC, plainC, List.getElem?_cons_zero, List.getElem?_cons_succ, List.getD_cons_zero, List.getD_cons_succ, List.set_cons_zero, List.set_cons_succ, List.length_cons, List.length_nil, List.map_cons, List.map_nil, List.replicate_succ, List.replicate_zero, List.cons_append, List.nil_append, Nat.reduceAdd, Nat.reduceMul, Int.reduceAdd, Int.reduceSub, Int.reduceMul, Nat.reduceSub, Nat.reduceLT, Nat.reduceLeDiff, Nat.lt_add_one, Int.reduceNeg, Int.reduceLT, Int.reduceLE, Int.reduceToNat, Int.reducePow, Nat.reducePow, List.flatten_cons, List.flatten_nil, List.append_nil, true_and, and_true, true_or, or_true, eq_self, and_self, decide_true, decide_false, Bool.not_true, Bool.not_false, Bool.not_not, Option.isSome_some, Bool.and_true, Bool.true_and, Bool.and_self, reduceIte, ↓reduceIte, Bool.false_eq_true, ite_self, reduceCtorEq, ne_eq, not_false_eq_true, forall_const, ↓x_gtup, ↓a_repr, ↓x_min1, ↓a_min2S, ↓x_yes, ↓x_ite, x_gnil, walk_l, walk_t, walk_s]
        refine forH_inv (fun r e => ∃ (k : Nat) (c3 c7 : C), r = enumF k ((eL v w).drop k) ∧ e = ⟨[.d (.scr n), .d .box, .d (.lst (L.map bD)), c3, .d (.int v), .d (.str w), .d (.lst (eL v w)), c7, c8, c9, .un], s⟩) ⟨0, _, _, rfl, rfl⟩ ?_ ?_
        · rintro e ⟨k, c3, c7, _, rfl⟩
          simp -dsimp only [↓opt_some, ↓br_true, ↓br_false, ↓nameC_d, ↓nameC_own, ↓nameC_dK, ↓nameC_dT, ↓x_name, ↓fzC_d, ↓fzC_own, ↓x_fzn, ↓x_fzd, ↓x_fzo, ↓x_rvn, ↓x_rvd, ↓x_rvo, ↓retC_d, ↓retC_own, ↓x_retn, ↓x_retd, ↓x_reto, ↓x_hd, ↓x_ho, ↓x_hn, ↓x_ad, ↓x_ao, ↓x_an, ↓x_set, ↓x_seq, ↓x_next, ↓x_break, ↓x_cont, ↓x_drop, ↓x_ret, ↓x_retN, ↓x_if, ↓x_asg, ↓x_asgG, ↓x_while, ↓x_for, ↓x_2, ↓x_1, ↓x_D, ↓bC_b, ↓x_B, ↓x_and, ↓x_or, ↓x_not, ↓x_andV, ↓x_orV, ↓x_notV, ↓x_tif, ↓x_nil, ↓x_cons, ↓x_tup, ↓x_lst, ↓x_rnil, ↓x_rcons, ↓x_callP, ↓x_rvLc, ↓x_rvLn, ↓x_meth, ↓x_meth0, ↓x_mut, ↓x_mg, ↓x_ms, ↓x_sl, ↓x_on, ↓iC_i, ↓x_os, ↓x_lc, ↓x_any, ↓x_pure, ↓sC_s, ↓x_rev, ↓x_call, ↓x_gn, ↓x_gnil, ↓x_gcons, ↓x_isi, ↓a_ii, ↓a_ss, ↓a_ll, ↓a_tt, ↓a_I, ↓a_neg, ↓a_mul, ↓a_mulL, ↓a_mulS, ↓a_eq, ↓a_ne, ↓a_lt, ↓a_le, ↓a_gt, ↓a_ge, ↓a_ltS, ↓a_leS, ↓a_inS, ↓a_ninS, ↓a_inL, ↓a_ninL, ↓a_inT, ↓a_ninT, ↓a_ixL, ↓a_ixT, ↓a_ixS, ↓a_ixR, ↓a_ixB, ↓a_slL, ↓a_slT, ↓a_slS, ↓a_lenS, ↓a_lenL, ↓a_lenT, ↓a_lenR, ↓a_join, ↓a_ixof, ↓a_ixofL, ↓a_rng1, ↓a_rng2, ↓a_min2, ↓a_max2, ↓a_lstS, ↓a_lstL, ↓a_lstT, ↓a_int, ↓a_intB, ↓a_isN, ↓x_popAt, ↓x_all, ↓x_anyB, ↓a_isB, ↓a_pop, ↓x_dict0, ↓x_aK, ↓x_kg, ↓x_ks, ↓x_dg, ↓x_di, ↓x_dpt, ↓x_enum, ↓a_backL, ↓a_backT, ↓x_never, ↓a_tupL, ↓a_tupT, ↓x_sort, ↓x_sortS, ↓x_sortP, ↓a_slR, ↓x_zip, ↓x_sum, ↓a_count, ↓augC_i, ↓x_aug, ↓x_par, ↓x_raise, ↓x_callX, ↓x_try, ↓x_subA, ↓x_setN, ↓a_two, ↓x_swIx, ↓x_mkX, ↓x_mk0, ↓x_raise0, ↓a_exB, ↓a_tbl, ↓a_cbl, ↓x_isX, ↓x_xattr, rvC_d, rvC_own, consO_s, isTy_s, isTy_l, mgC_own, walk_l, walk_t, walk_s, toR_d, toR_o, items_l, items_t, ok_s, ok_i, ok_b, ok_n, ok_l, ok_t, okL_n, okL_c, e_ss, e_ii, e_bb, e_ll, e_tt, eL_nn, eL_cc, eL_nc, eL_cn, ty_s, ty_i, ty_l, ty_b, kgC_dK, key_i, key_s, kI_eq, kS_eq, oneR_1, walkE_l, walkE_t, walkE_s, ty_t, twoR_2, side_l, side_t, twoD_2, ow_nil, ow_un, ow_d, m_app, m_ext, m_rev, sline, startC, restE, restC, wipeE, wipeC, plainC, List.getElem?_cons_zero, List.getElem?_cons_succ, List.getD_cons_zero, List.getD_cons_succ, List.set_cons_zero, List.set_cons_succ, List.length_cons, List.length_nil, List.map_cons, List.map_nil, List.replicate_succ, List.replicate_zero, List.cons_append, List.nil_append, Nat.reduceAdd, Nat.reduceMul, Int.reduceAdd, Int.reduceSub, Int.reduceMul, Nat.reduceSub, Nat.reduceLT, Nat.reduceLeDiff, Nat.lt_add_one, Int.reduceNeg, Int.reduceLT, Int.reduceLE, Int.reduceToNat, Int.reducePow, Nat.reducePow, List.flatten_cons, List.flatten_nil, List.append_nil, true_and, and_true, true_or, or_true, eq_self, and_self, decide_true, decide_false, Bool.not_true, Bool.not_false, Bool.not_not, Option.isSome_some, Bool.and_true, Bool.true_and, Bool.and_self, reduceIte, ↓reduceIte, Bool.false_eq_true, ite_self, reduceCtorEq, ne_eq, not_false_eq_true, forall_const, ↓x_gtup, ↓a_repr, ↓x_min1, ↓a_min2S, ↓x_yes, ↓x_ite, x_gnil, walk_l, walk_t, walk_s]
          refine forH_inv (fun r e => (∀ d ∈ r, d ∈ [D.tup [D.int 0, D.int 2], D.tup [D.int 1, D.int 8], D.tup [D.int 2, D.int 11]]) ∧ ∃ c8 c9 : C, e = ⟨[.d (.scr n), .d .box, .d (.lst (L.map bD)), c3, .d (.int v), .d (.str w), .d (.lst (eL v w)), c7, c8, c9, .un], s⟩) ⟨fun _ h => h, _, _, rfl⟩ ?_ ?_
          · rintro e ⟨_, c8, c9, rfl⟩
            exact hN _ ⟨_, _, _, _, _, _, _, rfl⟩
          · rintro d r e ⟨hr, c8, c9, rfl⟩ N' hN'
            have hd := hr d (List.mem_cons_self ..)
            simp only [List.mem_cons, List.not_mem_nil, or_false] at hd
            rcases hd with rfl | rfl | rfl
            · simp -dsimp only [↓opt_some, ↓br_true, ↓br_false, ↓nameC_d, ↓nameC_own, ↓nameC_dK, ↓nameC_dT, ↓x_name, ↓fzC_d, ↓fzC_own, ↓x_fzn, ↓x_fzd, ↓x_fzo, ↓x_rvn, ↓x_rvd, ↓x_rvo, ↓retC_d, ↓retC_own, ↓x_retn, ↓x_retd, ↓x_reto, ↓x_hd, ↓x_ho, ↓x_hn, ↓x_ad, ↓x_ao, ↓x_an, ↓x_set, ↓x_seq, ↓x_next, ↓x_break, ↓x_cont, ↓x_drop, ↓x_ret, ↓x_retN, ↓x_if, ↓x_asg, ↓x_asgG, ↓x_while, ↓x_for, ↓x_2, ↓x_1, ↓x_D, ↓bC_b, ↓x_B, ↓x_and, ↓x_or, ↓x_not, ↓x_andV, ↓x_orV, ↓x_notV, ↓x_tif, ↓x_nil, ↓x_cons, ↓x_tup, ↓x_lst, ↓x_rnil, ↓x_rcons, ↓x_callP, ↓x_rvLc, ↓x_rvLn, ↓x_meth, ↓x_meth0, ↓x_mut, ↓x_mg, ↓x_ms, ↓x_sl, ↓x_on, ↓iC_i, ↓x_os, ↓x_lc, ↓x_any, ↓x_pure, ↓sC_s, ↓x_rev, ↓x_call, ↓x_gn, ↓x_gnil, ↓x_gcons, ↓x_isi, ↓a_ii, ↓a_ss, ↓a_ll, ↓a_tt, ↓a_I, ↓a_neg, ↓a_mul, ↓a_mulL, ↓a_mulS, ↓a_eq, ↓a_ne, ↓a_lt, ↓a_le, ↓a_gt, ↓a_ge, ↓a_ltS, ↓a_leS, ↓a_inS, ↓a_ninS, ↓a_inL, ↓a_ninL, ↓a_inT, ↓a_ninT, ↓a_ixL, ↓a_ixT, ↓a_ixS, ↓a_ixR, ↓a_ixB, ↓a_slL, ↓a_slT, ↓a_slS, ↓a_lenS, ↓a_lenL, ↓a_lenT, ↓a_lenR, ↓a_join, ↓a_ixof, ↓a_ixofL, ↓a_rng1, ↓a_rng2, ↓a_min2, ↓a_max2, ↓a_lstS, ↓a_lstL, ↓a_lstT, ↓a_int, ↓a_intB, ↓a_isN, ↓x_popAt, ↓x_all, ↓x_anyB, ↓a_isB, ↓a_pop, ↓x_dict0, ↓x_aK, ↓x_kg, ↓x_ks, ↓x_dg, ↓x_di, ↓x_dpt, ↓x_enum, ↓a_backL, ↓a_backT, ↓x_never, ↓a_tupL, ↓a_tupT, ↓x_sort, ↓x_sortS, ↓x_sortP, ↓a_slR, ↓x_zip, ↓x_sum, ↓a_count, ↓augC_i, ↓x_aug, ↓x_par, ↓x_raise, ↓x_callX, ↓x_try, ↓x_subA, ↓x_setN, ↓a_two, ↓x_swIx, ↓x_mkX, ↓x_mk0, ↓x_raise0, ↓a_exB, ↓a_tbl, ↓a_cbl, ↓x_isX, ↓x_xattr, rvC_d, rvC_own, consO_s, isTy_s, isTy_l, mgC_own, walk_l, walk_t, walk_s, toR_d, toR_o, items_l, items_t, ok_s, ok_i, ok_b, ok_n, ok_l, ok_t, okL_n, okL_c, e_ss, e_ii, e_bb, e_ll, e_tt, eL_nn, eL_cc, eL_nc, eL_cn, ty_s, ty_i, ty_l, ty_b, kgC_dK, key_i, key_s, kI_eq, kS_eq, oneR_1, walkE_l, walkE_t, walkE_s, ty_t, twoR_2, side_l, side_t, twoD_2, ow_nil, ow_un, ow_d, m_app, m_ext, m_rev, sline, startC, restE, restC, wipeE, wipeC, plainC, List.getElem?_cons_zero, List.getElem?_cons_succ, List.getD_cons_zero, List.getD_cons_succ, List.set_cons_zero, List.set_cons_succ, List.length_cons, List.length_nil, List.map_cons, List.map_nil, List.replicate_succ, List.replicate_zero, List.cons_append, List.nil_append, Nat.reduceAdd, Nat.reduceMul, Int.reduceAdd, Int.reduceSub, Int.reduceMul, Nat.reduceSub, Nat.reduceLT, Nat.reduceLeDiff, Nat.lt_add_one, Int.reduceNeg, Int.reduceLT, Int.reduceLE, Int.reduceToNat, Int.reducePow, Nat.reducePow, List.flatten_cons, List.flatten_nil, List.append_nil, true_and, and_true, true_or, or_true, eq_self, and_self, decide_true, decide_false, Bool.not_true, Bool.not_false, Bool.not_not, Option.isSome_some, Bool.and_true, Bool.true_and, Bool.and_self, reduceIte, ↓reduceIte, Bool.false_eq_true, ite_self, reduceCtorEq, ne_eq, not_false_eq_true, forall_const, ↓x_gtup, ↓a_repr, ↓x_min1, ↓a_min2S, ↓x_yes, ↓x_ite, x_gnil, walk_l, walk_t, walk_s, e_caught]
              have e : cD 0 v w = .exc 2 ["word", "at"] [.str w, .int v] := if_pos rfl
              rw [e]
              simp -dsimp only [↓opt_some, ↓br_true, ↓br_false, ↓nameC_d, ↓nameC_own, ↓nameC_dK, ↓nameC_dT, ↓x_name, ↓fzC_d, ↓fzC_own, ↓x_fzn, ↓x_fzd, ↓x_fzo, ↓x_rvn, ↓x_rvd, ↓x_rvo, ↓retC_d, ↓retC_own, ↓x_retn, ↓x_retd, ↓x_reto, ↓x_hd, ↓x_ho, ↓x_hn, ↓x_ad, ↓x_ao, ↓x_an, ↓x_set, ↓x_seq, ↓x_next, ↓x_break, ↓x_cont, ↓x_drop, ↓x_ret, ↓x_retN, ↓x_if, ↓x_asg, ↓x_asgG, ↓x_while, ↓x_for, ↓x_2, ↓x_1, ↓x_D, ↓bC_b, ↓x_B, ↓x_and, ↓x_or, ↓x_not, ↓x_andV, ↓x_orV, ↓x_notV, ↓x_tif, ↓x_nil, ↓x_cons, ↓x_tup, ↓x_lst, ↓x_rnil, ↓x_rcons, ↓x_callP, ↓x_rvLc, ↓x_rvLn, ↓x_meth, ↓x_meth0, ↓x_mut, ↓x_mg, ↓x_ms, ↓x_sl, ↓x_on, ↓iC_i, ↓x_os, ↓x_lc, ↓x_any, ↓x_pure, ↓sC_s, ↓x_rev, ↓x_call, ↓x_gn, ↓x_gnil, ↓x_gcons, ↓x_isi, ↓a_ii, ↓a_ss, ↓a_ll, ↓a_tt, ↓a_I, ↓a_neg, ↓a_mul, ↓a_mulL, ↓a_mulS, ↓a_eq, ↓a_ne, ↓a_lt, ↓a_le, ↓a_gt, ↓a_ge, ↓a_ltS, ↓a_leS, ↓a_inS, ↓a_ninS, ↓a_inL, ↓a_ninL, ↓a_inT, ↓a_ninT, ↓a_ixL, ↓a_ixT, ↓a_ixS, ↓a_ixR, ↓a_ixB, ↓a_slL, ↓a_slT, ↓a_slS, ↓a_lenS, ↓a_lenL, ↓a_lenT, ↓a_lenR, ↓a_join, ↓a_ixof, ↓a_ixofL, ↓a_rng1, ↓a_rng2, ↓a_min2, ↓a_max2, ↓a_lstS, ↓a_lstL, ↓a_lstT, ↓a_int, ↓a_intB, ↓a_isN, ↓x_popAt, ↓x_all, ↓x_anyB, ↓a_isB, ↓a_pop, ↓x_dict0, ↓x_aK, ↓x_kg, ↓x_ks, ↓x_dg, ↓x_di, ↓x_dpt, ↓x_enum, ↓a_backL, ↓a_backT, ↓x_never, ↓a_tupL, ↓a_tupT, ↓x_sort, ↓x_sortS, ↓x_sortP, ↓a_slR, ↓x_zip, ↓x_sum, ↓a_count, ↓augC_i, ↓x_aug, ↓x_par, ↓x_raise, ↓x_callX, ↓x_try, ↓x_subA, ↓x_setN, ↓a_two, ↓x_swIx, ↓x_mkX, ↓x_mk0, ↓x_raise0, ↓a_exB, ↓a_tbl, ↓a_cbl, ↓x_isX, ↓x_xattr, rvC_d, rvC_own, consO_s, isTy_s, isTy_l, mgC_own, walk_l, walk_t, walk_s, toR_d, toR_o, items_l, items_t, ok_s, ok_i, ok_b, ok_n, ok_l, ok_t, okL_n, okL_c, e_ss, e_ii, e_bb, e_ll, e_tt, eL_nn, eL_cc, eL_nc, eL_cn, ty_s, ty_i, ty_l, ty_b, kgC_dK, key_i, key_s, kI_eq, kS_eq, oneR_1, walkE_l, walkE_t, walkE_s, ty_t, twoR_2, side_l, side_t, twoD_2, ow_nil, ow_un, ow_d, m_app, m_ext, m_rev, sline, startC, restE, restC, wipeE, wipeC, plainC, List.getElem?_cons_zero, List.getElem?_cons_succ, List.getD_cons_zero, List.getD_cons_succ, List.set_cons_zero, List.set_cons_succ, List.length_cons, List.length_nil, List.map_cons, List.map_nil, List.replicate_succ, List.replicate_zero, List.cons_append, List.nil_append, Nat.reduceAdd, Nat.reduceMul, Int.reduceAdd, Int.reduceSub, Int.reduceMul, Nat.reduceSub, Nat.reduceLT, Nat.reduceLeDiff, Nat.lt_add_one, Int.reduceNeg, Int.reduceLT, Int.reduceLE, Int.reduceToNat, Int.reducePow, Nat.reducePow, List.flatten_cons, List.flatten_nil, List.append_nil, true_and, and_true, true_or, or_true, eq_self, and_self, decide_true, decide_false, Bool.not_true, Bool.not_false, Bool.not_not, Option.isSome_some, Bool.and_true, Bool.true_and, Bool.and_self, reduceIte, ↓reduceIte, Bool.false_eq_true, ite_self, reduceCtorEq, ne_eq, not_false_eq_true, forall_const, ↓x_gtup, ↓a_repr, ↓x_min1, ↓a_min2S, ↓x_yes, ↓x_ite, x_gnil, walk_l, walk_t, walk_s, e_kinds]
              refine opt_of (a := D.exc 2 ["word", "at"] [.str w, .int v]) rfl ?_
              simp -dsimp only [↓opt_some, ↓br_true, ↓br_false, ↓nameC_d, ↓nameC_own, ↓nameC_dK, ↓nameC_dT, ↓x_name, ↓fzC_d, ↓fzC_own, ↓x_fzn, ↓x_fzd, ↓x_fzo, ↓x_rvn, ↓x_rvd, ↓x_rvo, ↓retC_d, ↓retC_own, ↓x_retn, ↓x_retd, ↓x_reto, ↓x_hd, ↓x_ho, ↓x_hn, ↓x_ad, ↓x_ao, ↓x_an, ↓x_set, ↓x_seq, ↓x_next, ↓x_break, ↓x_cont, ↓x_drop, ↓x_ret, ↓x_retN, ↓x_if, ↓x_asg, ↓x_asgG, ↓x_while, ↓x_for, ↓x_2, ↓x_1, ↓x_D, ↓bC_b, ↓x_B, ↓x_and, ↓x_or, ↓x_not, ↓x_andV, ↓x_orV, ↓x_notV, ↓x_tif, ↓x_nil, ↓x_cons, ↓x_tup, ↓x_lst, ↓x_rnil, ↓x_rcons, ↓x_callP, ↓x_rvLc, ↓x_rvLn, ↓x_meth, ↓x_meth0, ↓x_mut, ↓x_mg, ↓x_ms, ↓x_sl, ↓x_on, ↓iC_i, ↓x_os, ↓x_lc, ↓x_any, ↓x_pure, ↓sC_s, ↓x_rev, ↓x_call, ↓x_gn, ↓x_gnil, ↓x_gcons, ↓x_isi, ↓a_ii, ↓a_ss, ↓a_ll, ↓a_tt, ↓a_I, ↓a_neg, ↓a_mul, ↓a_mulL, ↓a_mulS, ↓a_eq, ↓a_ne, ↓a_lt, ↓a_le, ↓a_gt, ↓a_ge, ↓a_ltS, ↓a_leS, ↓a_inS, ↓a_ninS, ↓a_inL, ↓a_ninL, ↓a_inT, ↓a_ninT, ↓a_ixL, ↓a_ixT, ↓a_ixS, ↓a_ixR, ↓a_ixB, ↓a_slL, ↓a_slT, ↓a_slS, ↓a_lenS, ↓a_lenL, ↓a_lenT, ↓a_lenR, ↓a_join, ↓a_ixof, ↓a_ixofL, ↓a_rng1, ↓a_rng2, ↓a_min2, ↓a_max2, ↓a_lstS, ↓a_lstL, ↓a_lstT, ↓a_int, ↓a_intB, ↓a_isN, ↓x_popAt, ↓x_all, ↓x_anyB, ↓a_isB, ↓a_pop, ↓x_dict0, ↓x_aK, ↓x_kg, ↓x_ks, ↓x_dg, ↓x_di, ↓x_dpt, ↓x_enum, ↓a_backL, ↓a_backT, ↓x_never, ↓a_tupL, ↓a_tupT, ↓x_sort, ↓x_sortS, ↓x_sortP, ↓a_slR, ↓x_zip, ↓x_sum, ↓a_count, ↓augC_i, ↓x_aug, ↓x_par, ↓x_raise, ↓x_callX, ↓x_try, ↓x_subA, ↓x_setN, ↓a_two, ↓x_swIx, ↓x_mkX, ↓x_mk0, ↓x_raise0, ↓a_exB, ↓a_tbl, ↓a_cbl, ↓x_isX, ↓x_xattr, rvC_d, rvC_own, consO_s, isTy_s, isTy_l, mgC_own, walk_l, walk_t, walk_s, toR_d, toR_o, items_l, items_t, ok_s, ok_i, ok_b, ok_n, ok_l, ok_t, okL_n, okL_c, e_ss, e_ii, e_bb, e_ll, e_tt, eL_nn, eL_cc, eL_nc, eL_cn, ty_s, ty_i, ty_l, ty_b, kgC_dK, key_i, key_s, kI_eq, kS_eq, oneR_1, walkE_l, walkE_t, walkE_s, ty_t, twoR_2, side_l, side_t, twoD_2, ow_nil, ow_un, ow_d, m_app, m_ext, m_rev, sline, startC, restE, restC, wipeE, wipeC, plainC, List.getElem?_cons_zero, List.getElem?_cons_succ, List.getD_cons_zero, List.getD_cons_succ, List.set_cons_zero, List.set_cons_succ, List.length_cons, List.length_nil, List.map_cons, List.map_nil, List.replicate_succ, List.replicate_zero, List.cons_append, List.nil_append, Nat.reduceAdd, Nat.reduceMul, Int.reduceAdd, Int.reduceSub, Int.reduceMul, Nat.reduceSub, Nat.reduceLT, Nat.reduceLeDiff, Nat.lt_add_one, Int.reduceNeg, Int.reduceLT, Int.reduceLE, Int.reduceToNat, Int.reducePow, Nat.reducePow, List.flatten_cons, List.flatten_nil, List.append_nil, true_and, and_true, true_or, or_true, eq_self, and_self, decide_true, decide_false, Bool.not_true, Bool.not_false, Bool.not_not, Option.isSome_some, Bool.and_true, Bool.true_and, Bool.and_self, reduceIte, ↓reduceIte, Bool.false_eq_true, ite_self, reduceCtorEq, ne_eq, not_false_eq_true, forall_const, ↓x_gtup, ↓a_repr, ↓x_min1, ↓a_min2S, ↓x_yes, ↓x_ite, x_gnil, walk_l, walk_t, walk_s, e_kinds]
              refine ⟨by decide, kL_ok 2 (by decide), br_neg (by decide +kernel) (hN' _ ⟨fun d hd => hr d (List.mem_cons_of_mem _ hd), _, _, rfl⟩)⟩
            · simp -dsimp only [↓opt_some, ↓br_true, ↓br_false, ↓nameC_d, ↓nameC_own, ↓nameC_dK, ↓nameC_dT, ↓x_name, ↓fzC_d, ↓fzC_own, ↓x_fzn, ↓x_fzd, ↓x_fzo, ↓x_rvn, ↓x_rvd, ↓x_rvo, ↓retC_d, ↓retC_own, ↓x_retn, ↓x_retd, ↓x_reto, ↓x_hd, ↓x_ho, ↓x_hn, ↓x_ad, ↓x_ao, ↓x_an, ↓x_set, ↓x_seq, ↓x_next, ↓x_break, ↓x_cont, ↓x_drop, ↓x_ret, ↓x_retN, ↓x_if, ↓x_asg, ↓x_asgG, ↓x_while, ↓x_for, ↓x_2, ↓x_1, ↓x_D, ↓bC_b, ↓x_B, ↓x_and, ↓x_or, ↓x_not, ↓x_andV, ↓x_orV, ↓x_notV, ↓x_tif, ↓x_nil, ↓x_cons, ↓x_tup, ↓x_lst, ↓x_rnil, ↓x_rcons, ↓x_callP, ↓x_rvLc, ↓x_rvLn, ↓x_meth, ↓x_meth0, ↓x_mut, ↓x_mg, ↓x_ms, ↓x_sl, ↓x_on, ↓iC_i, ↓x_os, ↓x_lc, ↓x_any, ↓x_pure, ↓sC_s, ↓x_rev, ↓x_call, ↓x_gn, ↓x_gnil, ↓x_gcons, ↓x_isi, ↓a_ii, ↓a_ss, ↓a_ll, ↓a_tt, ↓a_I, ↓a_neg, ↓a_mul, ↓a_mulL, ↓a_mulS, ↓a_eq, ↓a_ne, ↓a_lt, ↓a_le, ↓a_gt, ↓a_ge, ↓a_ltS, ↓a_leS, ↓a_inS, ↓a_ninS, ↓a_inL, ↓a_ninL, ↓a_inT, ↓a_ninT, ↓a_ixL, ↓a_ixT, ↓a_ixS, ↓a_ixR, ↓a_ixB, ↓a_slL, ↓a_slT, ↓a_slS, ↓a_lenS, ↓a_lenL, ↓a_lenT, ↓a_lenR, ↓a_join, ↓a_ixof, ↓a_ixofL, ↓a_rng1, ↓a_rng2, ↓a_min2, ↓a_max2, ↓a_lstS, ↓a_lstL, ↓a_lstT, ↓a_int, ↓a_intB, ↓a_isN, ↓x_popAt, ↓x_all, ↓x_anyB, ↓a_isB, ↓a_pop, ↓x_dict0, ↓x_aK, ↓x_kg, ↓x_ks, ↓x_dg, ↓x_di, ↓x_dpt, ↓x_enum, ↓a_backL, ↓a_backT, ↓x_never, ↓a_tupL, ↓a_tupT, ↓x_sort, ↓x_sortS, ↓x_sortP, ↓a_slR, ↓x_zip, ↓x_sum, ↓a_count, ↓augC_i, ↓x_aug, ↓x_par, ↓x_raise, ↓x_callX, ↓x_try, ↓x_subA, ↓x_setN, ↓a_two, ↓x_swIx, ↓x_mkX, ↓x_mk0, ↓x_raise0, ↓a_exB, ↓a_tbl, ↓a_cbl, ↓x_isX, ↓x_xattr, rvC_d, rvC_own, consO_s, isTy_s, isTy_l, mgC_own, walk_l, walk_t, walk_s, toR_d, toR_o, items_l, items_t, ok_s, ok_i, ok_b, ok_n, ok_l, ok_t, okL_n, okL_c, e_ss, e_ii, e_bb, e_ll, e_tt, eL_nn, eL_cc, eL_nc, eL_cn, ty_s, ty_i, ty_l, ty_b, kgC_dK, key_i, key_s, kI_eq, kS_eq, oneR_1, walkE_l, walkE_t, walkE_s, ty_t, twoR_2, side_l, side_t, twoD_2, ow_nil, ow_un, ow_d, m_app, m_ext, m_rev, sline, startC, restE, restC, wipeE, wipeC, plainC, List.getElem?_cons_zero, List.getElem?_cons_succ, List.getD_cons_zero, List.getD_cons_succ, List.set_cons_zero, List.set_cons_succ, List.length_cons, List.length_nil, List.map_cons, List.map_nil, List.replicate_succ, List.replicate_zero, List.cons_append, List.nil_append, Nat.reduceAdd, Nat.reduceMul, Int.reduceAdd, Int.reduceSub, Int.reduceMul, Nat.reduceSub, Nat.reduceLT, Nat.reduceLeDiff, Nat.lt_add_one, Int.reduceNeg, Int.reduceLT, Int.reduceLE, Int.reduceToNat, Int.reducePow, Nat.reducePow, List.flatten_cons, List.flatten_nil, List.append_nil, true_and, and_true, true_or, or_true, eq_self, and_self, decide_true, decide_false, Bool.not_true, Bool.not_false, Bool.not_not, Option.isSome_some, Bool.and_true, Bool.true_and, Bool.and_self, reduceIte, ↓reduceIte, Bool.false_eq_true, ite_self, reduceCtorEq, ne_eq, not_false_eq_true, forall_const, ↓x_gtup, ↓a_repr, ↓x_min1, ↓a_min2S, ↓x_yes, ↓x_ite, x_gnil, walk_l, walk_t, walk_s, e_caught]
              have e : cD 1 v w = .exc 8 ["name"] [.str w] := (if_neg (by decide)).trans (if_pos rfl)
              rw [e]
              simp -dsimp only [↓opt_some, ↓br_true, ↓br_false, ↓nameC_d, ↓nameC_own, ↓nameC_dK, ↓nameC_dT, ↓x_name, ↓fzC_d, ↓fzC_own, ↓x_fzn, ↓x_fzd, ↓x_fzo, ↓x_rvn, ↓x_rvd, ↓x_rvo, ↓retC_d, ↓retC_own, ↓x_retn, ↓x_retd, ↓x_reto, ↓x_hd, ↓x_ho, ↓x_hn, ↓x_ad, ↓x_ao, ↓x_an, ↓x_set, ↓x_seq, ↓x_next, ↓x_break, ↓x_cont, ↓x_drop, ↓x_ret, ↓x_retN, ↓x_if, ↓x_asg, ↓x_asgG, ↓x_while, ↓x_for, ↓x_2, ↓x_1, ↓x_D, ↓bC_b, ↓x_B, ↓x_and, ↓x_or, ↓x_not, ↓x_andV, ↓x_orV, ↓x_notV, ↓x_tif, ↓x_nil, ↓x_cons, ↓x_tup, ↓x_lst, ↓x_rnil, ↓x_rcons, ↓x_callP, ↓x_rvLc, ↓x_rvLn, ↓x_meth, ↓x_meth0, ↓x_mut, ↓x_mg, ↓x_ms, ↓x_sl, ↓x_on, ↓iC_i, ↓x_os, ↓x_lc, ↓x_any, ↓x_pure, ↓sC_s, ↓x_rev, ↓x_call, ↓x_gn, ↓x_gnil, ↓x_gcons, ↓x_isi, ↓a_ii, ↓a_ss, ↓a_ll, ↓a_tt, ↓a_I, ↓a_neg, ↓a_mul, ↓a_mulL, ↓a_mulS, ↓a_eq, ↓a_ne, ↓a_lt, ↓a_le, ↓a_gt, ↓a_ge, ↓a_ltS, ↓a_leS, ↓a_inS, ↓a_ninS, ↓a_inL, ↓a_ninL, ↓a_inT, ↓a_ninT, ↓a_ixL, ↓a_ixT, ↓a_ixS, ↓a_ixR, ↓a_ixB, ↓a_slL, ↓a_slT, ↓a_slS, ↓a_lenS, ↓a_lenL, ↓a_lenT, ↓a_lenR, ↓a_join, ↓a_ixof, ↓a_ixofL, ↓a_rng1, ↓a_rng2, ↓a_min2, ↓a_max2, ↓a_lstS, ↓a_lstL, ↓a_lstT, ↓a_int, ↓a_intB, ↓a_isN, ↓x_popAt, ↓x_all, ↓x_anyB, ↓a_isB, ↓a_pop, ↓x_dict0, ↓x_aK, ↓x_kg, ↓x_ks, ↓x_dg, ↓x_di, ↓x_dpt, ↓x_enum, ↓a_backL, ↓a_backT, ↓x_never, ↓a_tupL, ↓a_tupT, ↓x_sort, ↓x_sortS, ↓x_sortP, ↓a_slR, ↓x_zip, ↓x_sum, ↓a_count, ↓augC_i, ↓x_aug, ↓x_par, ↓x_raise, ↓x_callX, ↓x_try, ↓x_subA, ↓x_setN, ↓a_two, ↓x_swIx, ↓x_mkX, ↓x_mk0, ↓x_raise0, ↓a_exB, ↓a_tbl, ↓a_cbl, ↓x_isX, ↓x_xattr, rvC_d, rvC_own, consO_s, isTy_s, isTy_l, mgC_own, walk_l, walk_t, walk_s, toR_d, toR_o, items_l, items_t, ok_s, ok_i, ok_b, ok_n, ok_l, ok_t, okL_n, okL_c, e_ss, e_ii, e_bb, e_ll, e_tt, eL_nn, eL_cc, eL_nc, eL_cn, ty_s, ty_i, ty_l, ty_b, kgC_dK, key_i, key_s, kI_eq, kS_eq, oneR_1, walkE_l, walkE_t, walkE_s, ty_t, twoR_2, side_l, side_t, twoD_2, ow_nil, ow_un, ow_d, m_app, m_ext, m_rev, sline, startC, restE, restC, wipeE, wipeC, plainC, List.getElem?_cons_zero, List.getElem?_cons_succ, List.getD_cons_zero, List.getD_cons_succ, List.set_cons_zero, List.set_cons_succ, List.length_cons, List.length_nil, List.map_cons, List.map_nil, List.replicate_succ, List.replicate_zero, List.cons_append, List.nil_append, Nat.reduceAdd, Nat.reduceMul, Int.reduceAdd, Int.reduceSub, Int.reduceMul, Nat.reduceSub, Nat.reduceLT, Nat.reduceLeDiff, Nat.lt_add_one, Int.reduceNeg, Int.reduceLT, Int.reduceLE, Int.reduceToNat, Int.reducePow, Nat.reducePow, List.flatten_cons, List.flatten_nil, List.append_nil, true_and, and_true, true_or, or_true, eq_self, and_self, decide_true, decide_false, Bool.not_true, Bool.not_false, Bool.not_not, Option.isSome_some, Bool.and_true, Bool.true_and, Bool.and_self, reduceIte, ↓reduceIte, Bool.false_eq_true, ite_self, reduceCtorEq, ne_eq, not_false_eq_true, forall_const, ↓x_gtup, ↓a_repr, ↓x_min1, ↓a_min2S, ↓x_yes, ↓x_ite, x_gnil, walk_l, walk_t, walk_s, e_kinds]
              refine opt_of (a := D.exc 8 ["name"] [.str w]) rfl ?_
              simp -dsimp only [↓opt_some, ↓br_true, ↓br_false, ↓nameC_d, ↓nameC_own, ↓nameC_dK, ↓nameC_dT, ↓x_name, ↓fzC_d, ↓fzC_own, ↓x_fzn, ↓x_fzd, ↓x_fzo, ↓x_rvn, ↓x_rvd, ↓x_rvo, ↓retC_d, ↓retC_own, ↓x_retn, ↓x_retd, ↓x_reto, ↓x_hd, ↓x_ho, ↓x_hn, ↓x_ad, ↓x_ao, ↓x_an, ↓x_set, ↓x_seq, ↓x_next, ↓x_break, ↓x_cont, ↓x_drop, ↓x_ret, ↓x_retN, ↓x_if, ↓x_asg, ↓x_asgG, ↓x_while, ↓x_for, ↓x_2, ↓x_1, ↓x_D, ↓bC_b, ↓x_B, ↓x_and, ↓x_or, ↓x_not, ↓x_andV, ↓x_orV, ↓x_notV, ↓x_tif, ↓x_nil, ↓x_cons, ↓x_tup, ↓x_lst, ↓x_rnil, ↓x_rcons, ↓x_callP, ↓x_rvLc, ↓x_rvLn, ↓x_meth, ↓x_meth0, ↓x_mut, ↓x_mg, ↓x_ms, ↓x_sl, ↓x_on, ↓iC_i, ↓x_os, ↓x_lc, ↓x_any, ↓x_pure, ↓sC_s, ↓x_rev, ↓x_call, ↓x_gn, ↓x_gnil, ↓x_gcons, ↓x_isi, ↓a_ii, ↓a_ss, ↓a_ll, ↓a_tt, ↓a_I, ↓a_neg, ↓a_mul, ↓a_mulL, ↓a_mulS, ↓a_eq, ↓a_ne, ↓a_lt, ↓a_le, ↓a_gt, ↓a_ge, ↓a_ltS, ↓a_leS, ↓a_inS, ↓a_ninS, ↓a_inL, ↓a_ninL, ↓a_inT, ↓a_ninT, ↓a_ixL, ↓a_ixT, ↓a_ixS, ↓a_ixR, ↓a_ixB, ↓a_slL, ↓a_slT, ↓a_slS, ↓a_lenS, ↓a_lenL, ↓a_lenT, ↓a_lenR, ↓a_join, ↓a_ixof, ↓a_ixofL, ↓a_rng1, ↓a_rng2, ↓a_min2, ↓a_max2, ↓a_lstS, ↓a_lstL, ↓a_lstT, ↓a_int, ↓a_intB, ↓a_isN, ↓x_popAt, ↓x_all, ↓x_anyB, ↓a_isB, ↓a_pop, ↓x_dict0, ↓x_aK, ↓x_kg, ↓x_ks, ↓x_dg, ↓x_di, ↓x_dpt, ↓x_enum, ↓a_backL, ↓a_backT, ↓x_never, ↓a_tupL, ↓a_tupT, ↓x_sort, ↓x_sortS, ↓x_sortP, ↓a_slR, ↓x_zip, ↓x_sum, ↓a_count, ↓augC_i, ↓x_aug, ↓x_par, ↓x_raise, ↓x_callX, ↓x_try, ↓x_subA, ↓x_setN, ↓a_two, ↓x_swIx, ↓x_mkX, ↓x_mk0, ↓x_raise0, ↓a_exB, ↓a_tbl, ↓a_cbl, ↓x_isX, ↓x_xattr, rvC_d, rvC_own, consO_s, isTy_s, isTy_l, mgC_own, walk_l, walk_t, walk_s, toR_d, toR_o, items_l, items_t, ok_s, ok_i, ok_b, ok_n, ok_l, ok_t, okL_n, okL_c, e_ss, e_ii, e_bb, e_ll, e_tt, eL_nn, eL_cc, eL_nc, eL_cn, ty_s, ty_i, ty_l, ty_b, kgC_dK, key_i, key_s, kI_eq, kS_eq, oneR_1, walkE_l, walkE_t, walkE_s, ty_t, twoR_2, side_l, side_t, twoD_2, ow_nil, ow_un, ow_d, m_app, m_ext, m_rev, sline, startC, restE, restC, wipeE, wipeC, plainC, List.getElem?_cons_zero, List.getElem?_cons_succ, List.getD_cons_zero, List.getD_cons_succ, List.set_cons_zero, List.set_cons_succ, List.length_cons, List.length_nil, List.map_cons, List.map_nil, List.replicate_succ, List.replicate_zero, List.cons_append, List.nil_append, Nat.reduceAdd, Nat.reduceMul, Int.reduceAdd, Int.reduceSub, Int.reduceMul, Nat.reduceSub, Nat.reduceLT, Nat.reduceLeDiff, Nat.lt_add_one, Int.reduceNeg, Int.reduceLT, Int.reduceLE, Int.reduceToNat, Int.reducePow, Nat.reducePow, List.flatten_cons, List.flatten_nil, List.append_nil, true_and, and_true, true_or, or_true, eq_self, and_self, decide_true, decide_false, Bool.not_true, Bool.not_false, Bool.not_not, Option.isSome_some, Bool.and_true, Bool.true_and, Bool.and_self, reduceIte, ↓reduceIte, Bool.false_eq_true, ite_self, reduceCtorEq, ne_eq, not_false_eq_true, forall_const, ↓x_gtup, ↓a_repr, ↓x_min1, ↓a_min2S, ↓x_yes, ↓x_ite, x_gnil, walk_l, walk_t, walk_s, e_kinds]
              refine ⟨by decide, kL_ok 8 (by decide), br_neg (by decide +kernel) (hN' _ ⟨fun d hd => hr d (List.mem_cons_of_mem _ hd), _, _, rfl⟩)⟩
            · simp -dsimp only [↓opt_some, ↓br_true, ↓br_false, ↓nameC_d, ↓nameC_own, ↓nameC_dK, ↓nameC_dT, ↓x_name, ↓fzC_d, ↓fzC_own, ↓x_fzn, ↓x_fzd, ↓x_fzo, ↓x_rvn, ↓x_rvd, ↓x_rvo, ↓retC_d, ↓retC_own, ↓x_retn, ↓x_retd, ↓x_reto, ↓x_hd, ↓x_ho, ↓x_hn, ↓x_ad, ↓x_ao, ↓x_an, ↓x_set, ↓x_seq, ↓x_next, ↓x_break, ↓x_cont, ↓x_drop, ↓x_ret, ↓x_retN, ↓x_if, ↓x_asg, ↓x_asgG, ↓x_while, ↓x_for, ↓x_2, ↓x_1, ↓x_D, ↓bC_b, ↓x_B, ↓x_and, ↓x_or, ↓x_not, ↓x_andV, ↓x_orV, ↓x_notV, ↓x_tif, ↓x_nil, ↓x_cons, ↓x_tup, ↓x_lst, ↓x_rnil, ↓x_rcons, ↓x_callP, ↓x_rvLc, ↓x_rvLn, ↓x_meth, ↓x_meth0, ↓x_mut, ↓x_mg, ↓x_ms, ↓x_sl, ↓x_on, ↓iC_i, ↓x_os, ↓x_lc, ↓x_any, ↓x_pure, ↓sC_s, ↓x_rev, ↓x_call, ↓x_gn, ↓x_gnil, ↓x_gcons, ↓x_isi, ↓a_ii, ↓a_ss, ↓a_ll, ↓a_tt, ↓a_I, ↓a_neg, ↓a_mul, ↓a_mulL, ↓a_mulS, ↓a_eq, ↓a_ne, ↓a_lt, ↓a_le, ↓a_gt, ↓a_ge, ↓a_ltS, ↓a_leS, ↓a_inS, ↓a_ninS, ↓a_inL, ↓a_ninL, ↓a_inT, ↓a_ninT, ↓a_ixL, ↓a_ixT, ↓a_ixS, ↓a_ixR, ↓a_ixB, ↓a_slL, ↓a_slT, ↓a_slS, ↓a_lenS, ↓a_lenL, ↓a_lenT, ↓a_lenR, ↓a_join, ↓a_ixof, ↓a_ixofL, ↓a_rng1, ↓a_rng2, ↓a_min2, ↓a_max2, ↓a_lstS, ↓a_lstL, ↓a_lstT, ↓a_int, ↓a_intB, ↓a_isN, ↓x_popAt, ↓x_all, ↓x_anyB, ↓a_isB, ↓a_pop, ↓x_dict0, ↓x_aK, ↓x_kg, ↓x_ks, ↓x_dg, ↓x_di, ↓x_dpt, ↓x_enum, ↓a_backL, ↓a_backT, ↓x_never, ↓a_tupL, ↓a_tupT, ↓x_sort, ↓x_sortS, ↓x_sortP, ↓a_slR, ↓x_zip, ↓x_sum, ↓a_count, ↓augC_i, ↓x_aug, ↓x_par, ↓x_raise, ↓x_callX, ↓x_try, ↓x_subA, ↓x_setN, ↓a_two, ↓x_swIx, ↓x_mkX, ↓x_mk0, ↓x_raise0, ↓a_exB, ↓a_tbl, ↓a_cbl, ↓x_isX, ↓x_xattr, rvC_d, rvC_own, consO_s, isTy_s, isTy_l, mgC_own, walk_l, walk_t, walk_s, toR_d, toR_o, items_l, items_t, ok_s, ok_i, ok_b, ok_n, ok_l, ok_t, okL_n, okL_c, e_ss, e_ii, e_bb, e_ll, e_tt, eL_nn, eL_cc, eL_nc, eL_cn, ty_s, ty_i, ty_l, ty_b, kgC_dK, key_i, key_s, kI_eq, kS_eq, oneR_1, walkE_l, walkE_t, walkE_s, ty_t, twoR_2, side_l, side_t, twoD_2, ow_nil, ow_un, ow_d, m_app, m_ext, m_rev, sline, startC, restE, restC, wipeE, wipeC, plainC, List.getElem?_cons_zero, List.getElem?_cons_succ, List.getD_cons_zero, List.getD_cons_succ, List.set_cons_zero, List.set_cons_succ, List.length_cons, List.length_nil, List.map_cons, List.map_nil, List.replicate_succ, List.replicate_zero, List.cons_append, List.nil_append, Nat.reduceAdd, Nat.reduceMul, Int.reduceAdd, Int.reduceSub, Int.reduceMul, Nat.reduceSub, Nat.reduceLT, Nat.reduceLeDiff, Nat.lt_add_one, Int.reduceNeg, Int.reduceLT, Int.reduceLE, Int.reduceToNat, Int.reducePow, Nat.reducePow, List.flatten_cons, List.flatten_nil, List.append_nil, true_and, and_true, true_or, or_true, eq_self, and_self, decide_true, decide_false, Bool.not_true, Bool.not_false, Bool.not_not, Option.isSome_some, Bool.and_true, Bool.true_and, Bool.and_self, reduceIte, ↓reduceIte, Bool.false_eq_true, ite_self, reduceCtorEq, ne_eq, not_false_eq_true, forall_const, ↓x_gtup, ↓a_repr, ↓x_min1, ↓a_min2S, ↓x_yes, ↓x_ite, x_gnil, walk_l, walk_t, walk_s, e_caught]
              have e : cD 2 v w = .exc 11 [] [] := (if_neg (by decide)).trans (if_neg (by decide))
              rw [e]
              simp -dsimp only [↓opt_some, ↓br_true, ↓br_false, ↓nameC_d, ↓nameC_own, ↓nameC_dK, ↓nameC_dT, ↓x_name, ↓fzC_d, ↓fzC_own, ↓x_fzn, ↓x_fzd, ↓x_fzo, ↓x_rvn, ↓x_rvd, ↓x_rvo, ↓retC_d, ↓retC_own, ↓x_retn, ↓x_retd, ↓x_reto, ↓x_hd, ↓x_ho, ↓x_hn, ↓x_ad, ↓x_ao, ↓x_an, ↓x_set, ↓x_seq, ↓x_next, ↓x_break, ↓x_cont, ↓x_drop, ↓x_ret, ↓x_retN, ↓x_if, ↓x_asg, ↓x_asgG, ↓x_while, ↓x_for, ↓x_2, ↓x_1, ↓x_D, ↓bC_b, ↓x_B, ↓x_and, ↓x_or, ↓x_not, ↓x_andV, ↓x_orV, ↓x_notV, ↓x_tif, ↓x_nil, ↓x_cons, ↓x_tup, ↓x_lst, ↓x_rnil, ↓x_rcons, ↓x_callP, ↓x_rvLc, ↓x_rvLn, ↓x_meth, ↓x_meth0, ↓x_mut, ↓x_mg, ↓x_ms, ↓x_sl, ↓x_on, ↓iC_i, ↓x_os, ↓x_lc, ↓x_any, ↓x_pure, ↓sC_s, ↓x_rev, ↓x_call, ↓x_gn, ↓x_gnil, ↓x_gcons, ↓x_isi, ↓a_ii, ↓a_ss, ↓a_ll, ↓a_tt, ↓a_I, ↓a_neg, ↓a_mul, ↓a_mulL, ↓a_mulS, ↓a_eq, ↓a_ne, ↓a_lt, ↓a_le, ↓a_gt, ↓a_ge, ↓a_ltS, ↓a_leS, ↓a_inS, ↓a_ninS, ↓a_inL, ↓a_ninL, ↓a_inT, ↓a_ninT, ↓a_ixL, ↓a_ixT, ↓a_ixS, ↓a_ixR, ↓a_ixB, ↓a_slL, ↓a_slT, ↓a_slS, ↓a_lenS, ↓a_lenL, ↓a_lenT, ↓a_lenR, ↓a_join, ↓a_ixof, ↓a_ixofL, ↓a_rng1, ↓a_rng2, ↓a_min2, ↓a_max2, ↓a_lstS, ↓a_lstL, ↓a_lstT, ↓a_int, ↓a_intB, ↓a_isN, ↓x_popAt, ↓x_all, ↓x_anyB, ↓a_isB, ↓a_pop, ↓x_dict0, ↓x_aK, ↓x_kg, ↓x_ks, ↓x_dg, ↓x_di, ↓x_dpt, ↓x_enum, ↓a_backL, ↓a_backT, ↓x_never, ↓a_tupL, ↓a_tupT, ↓x_sort, ↓x_sortS, ↓x_sortP, ↓a_slR, ↓x_zip, ↓x_sum, ↓a_count, ↓augC_i, ↓x_aug, ↓x_par, ↓x_raise, ↓x_callX, ↓x_try, ↓x_subA, ↓x_setN, ↓a_two, ↓x_swIx, ↓x_mkX, ↓x_mk0, ↓x_raise0, ↓a_exB, ↓a_tbl, ↓a_cbl, ↓x_isX, ↓x_xattr, rvC_d, rvC_own, consO_s, isTy_s, isTy_l, mgC_own, walk_l, walk_t, walk_s, toR_d, toR_o, items_l, items_t, ok_s, ok_i, ok_b, ok_n, ok_l, ok_t, okL_n, okL_c, e_ss, e_ii, e_bb, e_ll, e_tt, eL_nn, eL_cc, eL_nc, eL_cn, ty_s, ty_i, ty_l, ty_b, kgC_dK, key_i, key_s, kI_eq, kS_eq, oneR_1, walkE_l, walkE_t, walkE_s, ty_t, twoR_2, side_l, side_t, twoD_2, ow_nil, ow_un, ow_d, m_app, m_ext, m_rev, sline, startC, restE, restC, wipeE, wipeC, plainC, List.getElem?_cons_zero, List.getElem?_cons_succ, List.getD_cons_zero, List.getD_cons_succ, List.set_cons_zero, List.set_cons_succ, List.length_cons, List.length_nil, List.map_cons, List.map_nil, List.replicate_succ, List.replicate_zero, List.cons_append, List.nil_append, Nat.reduceAdd, Nat.reduceMul, Int.reduceAdd, Int.reduceSub, Int.reduceMul, Nat.reduceSub, Nat.reduceLT, Nat.reduceLeDiff, Nat.lt_add_one, Int.reduceNeg, Int.reduceLT, Int.reduceLE, Int.reduceToNat, Int.reducePow, Nat.reducePow, List.flatten_cons, List.flatten_nil, List.append_nil, true_and, and_true, true_or, or_true, eq_self, and_self, decide_true, decide_false, Bool.not_true, Bool.not_false, Bool.not_not, Option.isSome_some, Bool.and_true, Bool.true_and, Bool.and_self, reduceIte, ↓reduceIte, Bool.false_eq_true, ite_self, reduceCtorEq, ne_eq, not_false_eq_true, forall_const, ↓x_gtup, ↓a_repr, ↓x_min1, ↓a_min2S, ↓x_yes, ↓x_ite, x_gnil, walk_l, walk_t, walk_s, e_kinds]
              refine opt_of (a := D.exc 11 [] []) rfl ?_
              simp -dsimp only [↓opt_some, ↓br_true, ↓br_false, ↓nameC_d, ↓nameC_own, ↓nameC_dK, ↓nameC_dT, ↓x_name, ↓fzC_d, ↓fzC_own, ↓x_fzn, ↓x_fzd, ↓x_fzo, ↓x_rvn, ↓x_rvd, ↓x_rvo, ↓retC_d, ↓retC_own, ↓x_retn, ↓x_retd, ↓x_reto, ↓x_hd, ↓x_ho, ↓x_hn, ↓x_ad, ↓x_ao, ↓x_an, ↓x_set, ↓x_seq, ↓x_next, ↓x_break, ↓x_cont, ↓x_drop, ↓x_ret, ↓x_retN, ↓x_if, ↓x_asg, ↓x_asgG, ↓x_while, ↓x_for, ↓x_2, ↓x_1, ↓x_D, ↓bC_b, ↓x_B, ↓x_and, ↓x_or, ↓x_not, ↓x_andV, ↓x_orV, ↓x_notV, ↓x_tif, ↓x_nil, ↓x_cons, ↓x_tup, ↓x_lst, ↓x_rnil, ↓x_rcons, ↓x_callP, ↓x_rvLc, ↓x_rvLn, ↓x_meth, ↓x_meth0, ↓x_mut, ↓x_mg, ↓x_ms, ↓x_sl, ↓x_on, ↓iC_i, ↓x_os, ↓x_lc, ↓x_any, ↓x_pure, ↓sC_s, ↓x_rev, ↓x_call, ↓x_gn, ↓x_gnil, ↓x_gcons, ↓x_isi, ↓a_ii, ↓a_ss, ↓a_ll, ↓a_tt, ↓a_I, ↓a_neg, ↓a_mul, ↓a_mulL, ↓a_mulS, ↓a_eq, ↓a_ne, ↓a_lt, ↓a_le, ↓a_gt, ↓a_ge, ↓a_ltS, ↓a_leS, ↓a_inS, ↓a_ninS, ↓a_inL, ↓a_ninL, ↓a_inT, ↓a_ninT, ↓a_ixL, ↓a_ixT, ↓a_ixS, ↓a_ixR, ↓a_ixB, ↓a_slL, ↓a_slT, ↓a_slS, ↓a_lenS, ↓a_lenL, ↓a_lenT, ↓a_lenR, ↓a_join, ↓a_ixof, ↓a_ixofL, ↓a_rng1, ↓a_rng2, ↓a_min2, ↓a_max2, ↓a_lstS, ↓a_lstL, ↓a_lstT, ↓a_int, ↓a_intB, ↓a_isN, ↓x_popAt, ↓x_all, ↓x_anyB, ↓a_isB, ↓a_pop, ↓x_dict0, ↓x_aK, ↓x_kg, ↓x_ks, ↓x_dg, ↓x_di, ↓x_dpt, ↓x_enum, ↓a_backL, ↓a_backT, ↓x_never, ↓a_tupL, ↓a_tupT, ↓x_sort, ↓x_sortS, ↓x_sortP, ↓a_slR, ↓x_zip, ↓x_sum, ↓a_count, ↓augC_i, ↓x_aug, ↓x_par, ↓x_raise, ↓x_callX, ↓x_try, ↓x_subA, ↓x_setN, ↓a_two, ↓x_swIx, ↓x_mkX, ↓x_mk0, ↓x_raise0, ↓a_exB, ↓a_tbl, ↓a_cbl, ↓x_isX, ↓x_xattr, rvC_d, rvC_own, consO_s, isTy_s, isTy_l, mgC_own, walk_l, walk_t, walk_s, toR_d, toR_o, items_l, items_t, ok_s, ok_i, ok_b, ok_n, ok_l, ok_t, okL_n, okL_c, e_ss, e_ii, e_bb, e_ll, e_tt, eL_nn, eL_cc, eL_nc, eL_cn, ty_s, ty_i, ty_l, ty_b, kgC_dK, key_i, key_s, kI_eq, kS_eq, oneR_1, walkE_l, walkE_t, walkE_s, ty_t, twoR_2, side_l, side_t, twoD_2, ow_nil, ow_un, ow_d, m_app, m_ext, m_rev, sline, startC, restE, restC, wipeE, wipeC, plainC, List.getElem?_cons_zero, List.getElem?_cons_succ, List.getD_cons_zero, List.getD_cons_succ, List.set_cons_zero, List.set_cons_succ, List.length_cons, List.length_nil, List.map_cons, List.map_nil, List.replicate_succ, List.replicate_zero, List.cons_append, List.nil_append, Nat.reduceAdd, Nat.reduceMul, Int.reduceAdd, Int.reduceSub, Int.reduceMul, Nat.reduceSub, Nat.reduceLT, Nat.reduceLeDiff, Nat.lt_add_one, Int.reduceNeg, Int.reduceLT, Int.reduceLE, Int.reduceToNat, Int.reducePow, Nat.reducePow, List.flatten_cons, List.flatten_nil, List.append_nil, true_and, and_true, true_or, or_true, eq_self, and_self, decide_true, decide_false, Bool.not_true, Bool.not_false, Bool.not_not, Option.isSome_some, Bool.and_true, Bool.true_and, Bool.and_self, reduceIte, ↓reduceIte, Bool.false_eq_true, ite_self, reduceCtorEq, ne_eq, not_false_eq_true, forall_const, ↓x_gtup, ↓a_repr, ↓x_min1, ↓a_min2S, ↓x_yes, ↓x_ite, x_gnil, walk_l, walk_t, walk_s, e_kinds]
              refine ⟨by decide, kL_ok 11 (by decide), br_neg (by decide +kernel) (hN' _ ⟨fun d hd => hr d (List.mem_cons_of_mem _ hd), _, _, rfl⟩)⟩
        · rintro d r e ⟨k, c3, c7, h3, rfl⟩ N' hN'
          cases hx : (eL v w).drop k with
          | nil => rw [hx] at h3; cases h3
          | cons x l =>
            rw [hx] at h3
            have h3 : d :: r = .tup [.int (k : Nat), x] :: enumF (k + 1) l := h3
            cases h3
            have hk : (eL v w)[k]? = some x := by
              have := congrArg List.head? hx
              rw [List.head?_drop] at this
              exact this
            have hl' : l = (eL v w).drop (k + 1) := by
              have := congrArg List.tail hx
              rw [List.tail_drop] at this
              exact this.symm
            obtain ⟨k13, ns, vs, rfl⟩ := eL_at hk
            simp -dsimp only [↓opt_some, ↓br_true, ↓br_false, ↓nameC_d, ↓nameC_own, ↓nameC_dK, ↓nameC_dT, ↓x_name, ↓fzC_d, ↓fzC_own, ↓x_fzn, ↓x_fzd, ↓x_fzo, ↓x_rvn, ↓x_rvd, ↓x_rvo, ↓retC_d, ↓retC_own, ↓x_retn, ↓x_retd, ↓x_reto, ↓x_hd, ↓x_ho, ↓x_hn, ↓x_ad, ↓x_ao, ↓x_an, ↓x_set, ↓x_seq, ↓x_next, ↓x_break, ↓x_cont, ↓x_drop, ↓x_ret, ↓x_retN, ↓x_if, ↓x_asg, ↓x_asgG, ↓x_while, ↓x_for, ↓x_2, ↓x_1, ↓x_D, ↓bC_b, ↓x_B, ↓x_and, ↓x_or, ↓x_not, ↓x_andV, ↓x_orV, ↓x_notV, ↓x_tif, ↓x_nil, ↓x_cons, ↓x_tup, ↓x_lst, ↓x_rnil, ↓x_rcons, ↓x_callP, ↓x_rvLc, ↓x_rvLn, ↓x_meth, ↓x_meth0, ↓x_mut, ↓x_mg, ↓x_ms, ↓x_sl, ↓x_on, ↓iC_i, ↓x_os, ↓x_lc, ↓x_any, ↓x_pure, ↓sC_s, ↓x_rev, ↓x_call, ↓x_gn, ↓x_gnil, ↓x_gcons, ↓x_isi, ↓a_ii, ↓a_ss, ↓a_ll, ↓a_tt, ↓a_I, ↓a_neg, ↓a_mul, ↓a_mulL, ↓a_mulS, ↓a_eq, ↓a_ne, ↓a_lt, ↓a_le, ↓a_gt, ↓a_ge, ↓a_ltS, ↓a_leS, ↓a_inS, ↓a_ninS, ↓a_inL, ↓a_ninL, ↓a_inT, ↓a_ninT, ↓a_ixL, ↓a_ixT, ↓a_ixS, ↓a_ixR, ↓a_ixB, ↓a_slL, ↓a_slT, ↓a_slS, ↓a_lenS, ↓a_lenL, ↓a_lenT, ↓a_lenR, ↓a_join, ↓a_ixof, ↓a_ixofL, ↓a_rng1, ↓a_rng2, ↓a_min2, ↓a_max2, ↓a_lstS, ↓a_lstL, ↓a_lstT, ↓a_int, ↓a_intB, ↓a_isN, ↓x_popAt, ↓x_all, ↓x_anyB, ↓a_isB, ↓a_pop, ↓x_dict0, ↓x_aK, ↓x_kg, ↓x_ks, ↓x_dg, ↓x_di, ↓x_dpt, ↓x_enum, ↓a_backL, ↓a_backT, ↓x_never, ↓a_tupL, ↓a_tupT, ↓x_sort, ↓x_sortS, ↓x_sortP, ↓a_slR, ↓x_zip, ↓x_sum, ↓a_count, ↓augC_i, ↓x_aug, ↓x_par, ↓x_raise, ↓x_callX, ↓x_try, ↓x_subA, ↓x_setN, ↓a_two, ↓x_swIx, ↓x_mkX, ↓x_mk0, ↓x_raise0, ↓a_exB, ↓a_tbl, ↓a_cbl, ↓x_isX, ↓x_xattr, rvC_d, rvC_own, consO_s, isTy_s, isTy_l, mgC_own, walk_l, walk_t, walk_s, toR_d, toR_o, items_l, items_t, ok_s, ok_i, ok_b, ok_n, ok_l, ok_t, okL_n, okL_c, e_ss, e_ii, e_bb, e_ll, e_tt, eL_nn, eL_cc, eL_nc, eL_cn, ty_s, ty_i, ty_l, ty_b, kgC_dK, key_i, key_s, kI_eq, kS_eq, oneR_1, walkE_l, walkE_t, walkE_s, ty_t, twoR_2, side_l, side_t, twoD_2, ow_nil, ow_un, ow_d, m_app, m_ext, m_rev, sline, startC, restE, restC, wipeE, wipeC, plainC, List.getElem?_cons_zero, List.getElem?_cons_succ, List.getD_cons_zero, List.getD_cons_succ, List.set_cons_zero, List.set_cons_succ, List.length_cons, List.length_nil, List.map_cons, List.map_nil, List.replicate_succ, List.replicate_zero, List.cons_append, List.nil_append, Nat.reduceAdd, Nat.reduceMul, Int.reduceAdd, Int.reduceSub, Int.reduceMul, Nat.reduceSub, Nat.reduceLT, Nat.reduceLeDiff, Nat.lt_add_one, Int.reduceNeg, Int.reduceLT, Int.reduceLE, Int.reduceToNat, Int.reducePow, Nat.reducePow, List.flatten_cons, List.flatten_nil, List.append_nil, true_and, and_true, true_or, or_true, eq_self, and_self, decide_true, decide_false, Bool.not_true, Bool.not_false, Bool.not_not, Option.isSome_some, Bool.and_true, Bool.true_and, Bool.and_self, reduceIte, ↓reduceIte, Bool.false_eq_true, ite_self, reduceCtorEq, ne_eq, not_false_eq_true, forall_const, ↓x_gtup, ↓a_repr, ↓x_min1, ↓a_min2S, ↓x_yes, ↓x_ite, x_gnil, walk_l, walk_t, walk_s, e_kinds]
            refine ⟨k13, by rw [rngI_length]; decide, ?_⟩
            refine lcH_map (fun d => .bl (D.eq d (.int (k : Nat)))) (fun d hd K kk => ?_) ?_
            · obtain ⟨i, rfl⟩ := rngI_int hd
              simp -dsimp only [↓opt_some, ↓br_true, ↓br_false, ↓nameC_d, ↓nameC_own, ↓nameC_dK, ↓nameC_dT, ↓x_name, ↓fzC_d, ↓fzC_own, ↓x_fzn, ↓x_fzd, ↓x_fzo, ↓x_rvn, ↓x_rvd, ↓x_rvo, ↓retC_d, ↓retC_own, ↓x_retn, ↓x_retd, ↓x_reto, ↓x_hd, ↓x_ho, ↓x_hn, ↓x_ad, ↓x_ao, ↓x_an, ↓x_set, ↓x_seq, ↓x_next, ↓x_break, ↓x_cont, ↓x_drop, ↓x_ret, ↓x_retN, ↓x_if, ↓x_asg, ↓x_asgG, ↓x_while, ↓x_for, ↓x_2, ↓x_1, ↓x_D, ↓bC_b, ↓x_B, ↓x_and, ↓x_or, ↓x_not, ↓x_andV, ↓x_orV, ↓x_notV, ↓x_tif, ↓x_nil, ↓x_cons, ↓x_tup, ↓x_lst, ↓x_rnil, ↓x_rcons, ↓x_callP, ↓x_rvLc, ↓x_rvLn, ↓x_meth, ↓x_meth0, ↓x_mut, ↓x_mg, ↓x_ms, ↓x_sl, ↓x_on, ↓iC_i, ↓x_os, ↓x_lc, ↓x_any, ↓x_pure, ↓sC_s, ↓x_rev, ↓x_call, ↓x_gn, ↓x_gnil, ↓x_gcons, ↓x_isi, ↓a_ii, ↓a_ss, ↓a_ll, ↓a_tt, ↓a_I, ↓a_neg, ↓a_mul, ↓a_mulL, ↓a_mulS, ↓a_eq, ↓a_ne, ↓a_lt, ↓a_le, ↓a_gt, ↓a_ge, ↓a_ltS, ↓a_leS, ↓a_inS, ↓a_ninS, ↓a_inL, ↓a_ninL, ↓a_inT, ↓a_ninT, ↓a_ixL, ↓a_ixT, ↓a_ixS, ↓a_ixR, ↓a_ixB, ↓a_slL, ↓a_slT, ↓a_slS, ↓a_lenS, ↓a_lenL, ↓a_lenT, ↓a_lenR, ↓a_join, ↓a_ixof, ↓a_ixofL, ↓a_rng1, ↓a_rng2, ↓a_min2, ↓a_max2, ↓a_lstS, ↓a_lstL, ↓a_lstT, ↓a_int, ↓a_intB, ↓a_isN, ↓x_popAt, ↓x_all, ↓x_anyB, ↓a_isB, ↓a_pop, ↓x_dict0, ↓x_aK, ↓x_kg, ↓x_ks, ↓x_dg, ↓x_di, ↓x_dpt, ↓x_enum, ↓a_backL, ↓a_backT, ↓x_never, ↓a_tupL, ↓a_tupT, ↓x_sort, ↓x_sortS, ↓x_sortP, ↓a_slR, ↓x_zip, ↓x_sum, ↓a_count, ↓augC_i, ↓x_aug, ↓x_par, ↓x_raise, ↓x_callX, ↓x_try, ↓x_subA, ↓x_setN, ↓a_two, ↓x_swIx, ↓x_mkX, ↓x_mk0, ↓x_raise0, ↓a_exB, ↓a_tbl, ↓a_cbl, ↓x_isX, ↓x_xattr, rvC_d, rvC_own, consO_s, isTy_s, isTy_l, mgC_own, walk_l, walk_t, walk_s, toR_d, toR_o, items_l, items_t, ok_s, ok_i, ok_b, ok_n, ok_l, ok_t, okL_n, okL_c, e_ss, e_ii, e_bb, e_ll, e_tt, eL_nn, eL_cc, eL_nc, eL_cn, ty_s, ty_i, ty_l, ty_b, kgC_dK, key_i, key_s, kI_eq, kS_eq, oneR_1, walkE_l, walkE_t, walkE_s, ty_t, twoR_2, side_l, side_t, twoD_2, ow_nil, ow_un, ow_d, m_app, m_ext, m_rev, sline, startC, restE, restC, wipeE, wipeC, plainC, List.getElem?_cons_zero, List.getElem?_cons_succ, List.getD_cons_zero, List.getD_cons_succ, List.set_cons_zero, List.set_cons_succ, List.length_cons, List.length_nil, List.map_cons, List.map_nil, List.replicate_succ, List.replicate_zero, List.cons_append, List.nil_append, Nat.reduceAdd, Nat.reduceMul, Int.reduceAdd, Int.reduceSub, Int.reduceMul, Nat.reduceSub, Nat.reduceLT, Nat.reduceLeDiff, Nat.lt_add_one, Int.reduceNeg, Int.reduceLT, Int.reduceLE, Int.reduceToNat, Int.reducePow, Nat.reducePow, List.flatten_cons, List.flatten_nil, List.append_nil, true_and, and_true, true_or, or_true, eq_self, and_self, decide_true, decide_false, Bool.not_true, Bool.not_false, Bool.not_not, Option.isSome_some, Bool.and_true, Bool.true_and, Bool.and_self, reduceIte, ↓reduceIte, Bool.false_eq_true, ite_self, reduceCtorEq, ne_eq, not_false_eq_true, forall_const, ↓x_gtup, ↓a_repr, ↓x_min1, ↓a_min2S, ↓x_yes, ↓x_ite, x_gnil, walk_l, walk_t, walk_s]
              exact kk
            · simp -dsimp only [↓opt_some, ↓br_true, ↓br_false, ↓nameC_d, ↓nameC_own, ↓nameC_dK, ↓nameC_dT, ↓x_name, ↓fzC_d, ↓fzC_own, ↓x_fzn, ↓x_fzd, ↓x_fzo, ↓x_rvn, ↓x_rvd, ↓x_rvo, ↓retC_d, ↓retC_own, ↓x_retn, ↓x_retd, ↓x_reto, ↓x_hd, ↓x_ho, ↓x_hn, ↓x_ad, ↓x_ao, ↓x_an, ↓x_set, ↓x_seq, ↓x_next, ↓x_break, ↓x_cont, ↓x_drop, ↓x_ret, ↓x_retN, ↓x_if, ↓x_asg, ↓x_asgG, ↓x_while, ↓x_for, ↓x_2, ↓x_1, ↓x_D, ↓bC_b, ↓x_B, ↓x_and, ↓x_or, ↓x_not, ↓x_andV, ↓x_orV, ↓x_notV, ↓x_tif, ↓x_nil, ↓x_cons, ↓x_tup, ↓x_lst, ↓x_rnil, ↓x_rcons, ↓x_callP, ↓x_rvLc, ↓x_rvLn, ↓x_meth, ↓x_meth0, ↓x_mut, ↓x_mg, ↓x_ms, ↓x_sl, ↓x_on, ↓iC_i, ↓x_os, ↓x_lc, ↓x_any, ↓x_pure, ↓sC_s, ↓x_rev, ↓x_call, ↓x_gn, ↓x_gnil, ↓x_gcons, ↓x_isi, ↓a_ii, ↓a_ss, ↓a_ll, ↓a_tt, ↓a_I, ↓a_neg, ↓a_mul, ↓a_mulL, ↓a_mulS, ↓a_eq, ↓a_ne, ↓a_lt, ↓a_le, ↓a_gt, ↓a_ge, ↓a_ltS, ↓a_leS, ↓a_inS, ↓a_ninS, ↓a_inL, ↓a_ninL, ↓a_inT, ↓a_ninT, ↓a_ixL, ↓a_ixT, ↓a_ixS, ↓a_ixR, ↓a_ixB, ↓a_slL, ↓a_slT, ↓a_slS, ↓a_lenS, ↓a_lenL, ↓a_lenT, ↓a_lenR, ↓a_join, ↓a_ixof, ↓a_ixofL, ↓a_rng1, ↓a_rng2, ↓a_min2, ↓a_max2, ↓a_lstS, ↓a_lstL, ↓a_lstT, ↓a_int, ↓a_intB, ↓a_isN, ↓x_popAt, ↓x_all, ↓x_anyB, ↓a_isB, ↓a_pop, ↓x_dict0, ↓x_aK, ↓x_kg, ↓x_ks, ↓x_dg, ↓x_di, ↓x_dpt, ↓x_enum, ↓a_backL, ↓a_backT, ↓x_never, ↓a_tupL, ↓a_tupT, ↓x_sort, ↓x_sortS, ↓x_sortP, ↓a_slR, ↓x_zip, ↓x_sum, ↓a_count, ↓augC_i, ↓x_aug, ↓x_par, ↓x_raise, ↓x_callX, ↓x_try, ↓x_subA, ↓x_setN, ↓a_two, ↓x_swIx, ↓x_mkX, ↓x_mk0, ↓x_raise0, ↓a_exB, ↓a_tbl, ↓a_cbl, ↓x_isX, ↓x_xattr, rvC_d, rvC_own, consO_s, isTy_s, isTy_l, mgC_own, walk_l, walk_t, walk_s, toR_d, toR_o, items_l, items_t, ok_s, ok_i, ok_b, ok_n, ok_l, ok_t, okL_n, okL_c, e_ss, e_ii, e_bb, e_ll, e_tt, eL_nn, eL_cc, eL_nc, eL_cn, ty_s, ty_i, ty_l, ty_b, kgC_dK, key_i, key_s, kI_eq, kS_eq, oneR_1, walkE_l, walkE_t, walkE_s, ty_t, twoR_2, side_l, side_t, twoD_2, ow_nil, ow_un, ow_d, m_app, m_ext, m_rev, sline, startC, restE, restC, wipeE, wipeC, plainC, List.getElem?_cons_zero, List.getElem?_cons_succ, List.getD_cons_zero, List.getD_cons_succ, List.set_cons_zero, List.set_cons_succ, List.length_cons, List.length_nil, List.map_cons, List.map_nil, List.replicate_succ, List.replicate_zero, List.cons_append, List.nil_append, Nat.reduceAdd, Nat.reduceMul, Int.reduceAdd, Int.reduceSub, Int.reduceMul, Nat.reduceSub, Nat.reduceLT, Nat.reduceLeDiff, Nat.lt_add_one, Int.reduceNeg, Int.reduceLT, Int.reduceLE, Int.reduceToNat, Int.reducePow, Nat.reducePow, List.flatten_cons, List.flatten_nil, List.append_nil, true_and, and_true, true_or, or_true, eq_self, and_self, decide_true, decide_false, Bool.not_true, Bool.not_false, Bool.not_not, Option.isSome_some, Bool.and_true, Bool.true_and, Bool.and_self, reduceIte, ↓reduceIte, Bool.false_eq_true, ite_self, reduceCtorEq, ne_eq, not_false_eq_true, forall_const, ↓x_gtup, ↓a_repr, ↓x_min1, ↓a_min2S, ↓x_yes, ↓x_ite, x_gnil, walk_l, walk_t, walk_s]
              exact ⟨by rw [List.length_map, rngI_length]; decide, kL_ok k k13, kM_ok k k13, br_neg (kL_eq k k13) (hN' _ ⟨k + 1, _, _, by rw [hl'], rfl⟩)⟩
    · rintro j e hj ⟨L, c3, c4, c5, hl, hL, rfl⟩ N hN
      simp -dsimp only [↓opt_some, ↓br_true, ↓br_false, ↓nameC_d, ↓nameC_own, ↓nameC_dK, ↓nameC_dT, ↓x_name, ↓fzC_d, ↓fzC_own, ↓x_fzn, ↓x_fzd, ↓x_fzo, ↓x_rvn, ↓x_rvd, ↓x_rvo, ↓retC_d, ↓retC_own, ↓x_retn, ↓x_retd, ↓x_reto, ↓x_hd, ↓x_ho, ↓x_hn, ↓x_ad, ↓x_ao, ↓x_an, ↓x_set, ↓x_seq, ↓x_next, ↓x_break, ↓x_cont, ↓x_drop, ↓x_ret, ↓x_retN, ↓x_if, ↓x_asg, ↓x_asgG, ↓x_while, ↓x_for, ↓x_2, ↓x_1, ↓x_D, ↓bC_b, ↓x_B, ↓x_and, ↓x_or, ↓x_not, ↓x_andV, ↓x_orV, ↓x_notV, ↓x_tif, ↓x_nil, ↓x_cons, ↓x_tup, ↓x_lst, ↓x_rnil, ↓x_rcons, ↓x_callP, ↓x_rvLc, ↓x_rvLn, ↓x_meth, ↓x_meth0, ↓x_mut, ↓x_mg, ↓x_ms, ↓x_sl, ↓x_on, ↓iC_i, ↓x_os, ↓x_lc, ↓x_any, ↓x_pure, ↓sC_s, ↓x_rev, ↓x_call, ↓x_gn, ↓x_gnil, ↓x_gcons, ↓x_isi, ↓a_ii, ↓a_ss, ↓a_ll, ↓a_tt, ↓a_I, ↓a_neg, ↓a_mul, ↓a_mulL, ↓a_mulS, ↓a_eq, ↓a_ne, ↓a_lt, ↓a_le, ↓a_gt, ↓a_ge, ↓a_ltS, ↓a_leS, ↓a_inS, ↓a_ninS, ↓a_inL, ↓a_ninL, ↓a_inT, ↓a_ninT, ↓a_ixL, ↓a_ixT, ↓a_ixS, ↓a_ixR, ↓a_ixB, ↓a_slL, ↓a_slT, ↓a_slS, ↓a_lenS, ↓a_lenL, ↓a_lenT, ↓a_lenR, ↓a_join, ↓a_ixof, ↓a_ixofL, ↓a_rng1, ↓a_rng2, ↓a_min2, ↓a_max2, ↓a_lstS, ↓a_lstL, ↓a_lstT, ↓a_int, ↓a_intB, ↓a_isN, ↓x_popAt, ↓x_all, ↓x_anyB, ↓a_isB, ↓a_pop, ↓x_dict0, ↓x_aK, ↓x_kg, ↓x_ks, ↓x_dg, ↓x_di, ↓x_dpt, ↓x_enum, ↓a_backL, ↓a_backT, ↓x_never, ↓a_tupL, ↓a_tupT, ↓x_sort, ↓x_sortS, ↓x_sortP, ↓a_slR, ↓x_zip, ↓x_sum, ↓a_count, ↓augC_i, ↓x_aug, ↓x_par, ↓x_raise, ↓x_callX, ↓x_try, ↓x_subA, ↓x_setN, ↓a_two, ↓x_swIx, ↓x_mkX, ↓x_mk0, ↓x_raise0, ↓a_exB, ↓a_tbl, ↓a_cbl, ↓x_isX, ↓x_xattr, rvC_d, rvC_own, consO_s, isTy_s, isTy_l, mgC_own, walk_l, walk_t, walk_s, toR_d, toR_o, items_l, items_t, ok_s, ok_i, ok_b, ok_n, ok_l, ok_t, okL_n, okL_c, e_ss, e_ii, e_bb, e_ll, e_tt, eL_nn, eL_cc, eL_nc, eL_cn, ty_s, ty_i, ty_l, ty_b, kgC_dK, key_i, key_s, kI_eq, kS_eq, oneR_1, walkE_l, walkE_t, walkE_s, ty_t, twoR_2, side_l, side_t, twoD_2, ow_nil, ow_un, ow_d, m_app, m_ext, m_rev, sline, startC, restE, restC, wipeE, wipeC, plainC, List.getElem?_cons_zero, List.getElem?_cons_succ, List.getD_cons_zero, List.getD_cons_succ, List.set_cons_zero, List.set_cons_succ, List.length_cons, List.length_nil, List.map_cons, List.map_nil, List.replicate_succ, List.replicate_zero, List.cons_append, List.nil_append, Nat.reduceAdd, Nat.reduceMul, Int.reduceAdd, Int.reduceSub, Int.reduceMul, Nat.reduceSub, Nat.reduceLT, Nat.reduceLeDiff, Nat.lt_add_one, Int.reduceNeg, Int.reduceLT, Int.reduceLE, Int.reduceToNat, Int.reducePow, Nat.reducePow, List.flatten_cons, List.flatten_nil, List.append_nil, true_and, and_true, true_or, or_true, eq_self, and_self, decide_true, decide_false, Bool.not_true, Bool.not_false, Bool.not_not, Option.isSome_some, Bool.and_true, Bool.true_and, Bool.and_self, reduceIte, ↓reduceIte, Bool.false_eq_true, ite_self, reduceCtorEq, ne_eq, not_false_eq_true, forall_const, ↓x_gtup, ↓a_repr, ↓x_min1, ↓a_min2S, ↓x_yes, ↓x_ite, x_gnil, walk_l, walk_t, walk_s, e_take]
      intro d d0 d1
      refine ⟨⟨by decide, by decide, by decide⟩, fun t t0 t1 k k0 k1 => ?_⟩
      refine at_mem k0 k1 fun x hx => ?_
      have hv : ∃ v : Int, x = .int v ∧ -2 ≤ v ∧ v < 10 ^ 12 := by
        simp only [List.mem_cons, List.not_mem_nil, or_false] at hx
        rcases hx with rfl | rfl
        · exact ⟨_, rfl, by omega, by omega⟩
        · exact ⟨_, rfl, by omega, by omega⟩
      obtain ⟨v, rfl, v0, v1⟩ := hv
      simp -dsimp only [↓opt_some, ↓br_true, ↓br_false, ↓nameC_d, ↓nameC_own, ↓nameC_dK, ↓nameC_dT, ↓x_name, ↓fzC_d, ↓fzC_own, ↓x_fzn, ↓x_fzd, ↓x_fzo, ↓x_rvn, ↓x_rvd, ↓x_rvo, ↓retC_d, ↓retC_own, ↓x_retn, ↓x_retd, ↓x_reto, ↓x_hd, ↓x_ho, ↓x_hn, ↓x_ad, ↓x_ao, ↓x_an, ↓x_set, ↓x_seq, ↓x_next, ↓x_break, ↓x_cont, ↓x_drop, ↓x_ret, ↓x_retN, ↓x_if, ↓x_asg, ↓x_asgG, ↓x_while, ↓x_for, ↓x_2, ↓x_1, ↓x_D, ↓bC_b, ↓x_B, ↓x_and, ↓x_or, ↓x_not, ↓x_andV, ↓x_orV, ↓x_notV, ↓x_tif, ↓x_nil, ↓x_cons, ↓x_tup, ↓x_lst, ↓x_rnil, ↓x_rcons, ↓x_callP, ↓x_rvLc, ↓x_rvLn, ↓x_meth, ↓x_meth0, ↓x_mut, ↓x_mg, ↓x_ms, ↓x_sl, ↓x_on, ↓iC_i, ↓x_os, ↓x_lc, ↓x_any, ↓x_pure, ↓sC_s, ↓x_rev, ↓x_call, ↓x_gn, ↓x_gnil, ↓x_gcons, ↓x_isi, ↓a_ii, ↓a_ss, ↓a_ll, ↓a_tt, ↓a_I, ↓a_neg, ↓a_mul, ↓a_mulL, ↓a_mulS, ↓a_eq, ↓a_ne, ↓a_lt, ↓a_le, ↓a_gt, ↓a_ge, ↓a_ltS, ↓a_leS, ↓a_inS, ↓a_ninS, ↓a_inL, ↓a_ninL, ↓a_inT, ↓a_ninT, ↓a_ixL, ↓a_ixT, ↓a_ixS, ↓a_ixR, ↓a_ixB, ↓a_slL, ↓a_slT, ↓a_slS, ↓a_lenS, ↓a_lenL, ↓a_lenT, ↓a_lenR, ↓a_join, ↓a_ixof, ↓a_ixofL, ↓a_rng1, ↓a_rng2, ↓a_min2, ↓a_max2, ↓a_lstS, ↓a_lstL, ↓a_lstT, ↓a_int, ↓a_intB, ↓a_isN, ↓x_popAt, ↓x_all, ↓x_anyB, ↓a_isB, ↓a_pop, ↓x_dict0, ↓x_aK, ↓x_kg, ↓x_ks, ↓x_dg, ↓x_di, ↓x_dpt, ↓x_enum, ↓a_backL, ↓a_backT, ↓x_never, ↓a_tupL, ↓a_tupT, ↓x_sort, ↓x_sortS, ↓x_sortP, ↓a_slR, ↓x_zip, ↓x_sum, ↓a_count, ↓augC_i, ↓x_aug, ↓x_par, ↓x_raise, ↓x_callX, ↓x_try, ↓x_subA, ↓x_setN, ↓a_two, ↓x_swIx, ↓x_mkX, ↓x_mk0, ↓x_raise0, ↓a_exB, ↓a_tbl, ↓a_cbl, ↓x_isX, ↓x_xattr, rvC_d, rvC_own, consO_s, isTy_s, isTy_l, mgC_own, walk_l, walk_t, walk_s, toR_d, toR_o, items_l, items_t, ok_s, ok_i, ok_b, ok_n, ok_l, ok_t, okL_n, okL_c, e_ss, e_ii, e_bb, e_ll, e_tt, eL_nn, eL_cc, eL_nc, eL_cn, ty_s, ty_i, ty_l, ty_b, kgC_dK, key_i, key_s, kI_eq, kS_eq, oneR_1, walkE_l, walkE_t, walkE_s, ty_t, twoR_2, side_l, side_t, twoD_2, ow_nil, ow_un, ow_d, m_app, m_ext, m_rev, sline, startC, restE, restC, wipeE, wipeC, plainC, List.getElem?_cons_zero, List.getElem?_cons_succ, List.getD_cons_zero, List.getD_cons_succ, List.set_cons_zero, List.set_cons_succ, List.length_cons, List.length_nil, List.map_cons, List.map_nil, List.replicate_succ, List.replicate_zero, List.cons_append, List.nil_append, Nat.reduceAdd, Nat.reduceMul, Int.reduceAdd, Int.reduceSub, Int.reduceMul, Nat.reduceSub, Nat.reduceLT, Nat.reduceLeDiff, Nat.lt_add_one, Int.reduceNeg, Int.reduceLT, Int.reduceLE, Int.reduceToNat, Int.reducePow, Nat.reducePow, List.flatten_cons, List.flatten_nil, List.append_nil, true_and, and_true, true_or, or_true, eq_self, and_self, decide_true, decide_false, Bool.not_true, Bool.not_false, Bool.not_not, Option.isSome_some, Bool.and_true, Bool.true_and, Bool.and_self, reduceIte, ↓reduceIte, Bool.false_eq_true, ite_self, reduceCtorEq, ne_eq, not_false_eq_true, forall_const, ↓x_gtup, ↓a_repr, ↓x_min1, ↓a_min2S, ↓x_yes, ↓x_ite, x_gnil, walk_l, walk_t, walk_s, e_take]
      intro m m0 m1
      refine ⟨by omega, by rw [rngI_length]; omega, ?_⟩
      refine lcH_rel (fun _ z => ∃ c, c ∈ SM ∧ z = .str [c]) (fun z hz K k => ?_) fun ys hys => ?_
      · simp -dsimp only [↓opt_some, ↓br_true, ↓br_false, ↓nameC_d, ↓nameC_own, ↓nameC_dK, ↓nameC_dT, ↓x_name, ↓fzC_d, ↓fzC_own, ↓x_fzn, ↓x_fzd, ↓x_fzo, ↓x_rvn, ↓x_rvd, ↓x_rvo, ↓retC_d, ↓retC_own, ↓x_retn, ↓x_retd, ↓x_reto, ↓x_hd, ↓x_ho, ↓x_hn, ↓x_ad, ↓x_ao, ↓x_an, ↓x_set, ↓x_seq, ↓x_next, ↓x_break, ↓x_cont, ↓x_drop, ↓x_ret, ↓x_retN, ↓x_if, ↓x_asg, ↓x_asgG, ↓x_while, ↓x_for, ↓x_2, ↓x_1, ↓x_D, ↓bC_b, ↓x_B, ↓x_and, ↓x_or, ↓x_not, ↓x_andV, ↓x_orV, ↓x_notV, ↓x_tif, ↓x_nil, ↓x_cons, ↓x_tup, ↓x_lst, ↓x_rnil, ↓x_rcons, ↓x_callP, ↓x_rvLc, ↓x_rvLn, ↓x_meth, ↓x_meth0, ↓x_mut, ↓x_mg, ↓x_ms, ↓x_sl, ↓x_on, ↓iC_i, ↓x_os, ↓x_lc, ↓x_any, ↓x_pure, ↓sC_s, ↓x_rev, ↓x_call, ↓x_gn, ↓x_gnil, ↓x_gcons, ↓x_isi, ↓a_ii, ↓a_ss, ↓a_ll, ↓a_tt, ↓a_I, ↓a_neg, ↓a_mul, ↓a_mulL, ↓a_mulS, ↓a_eq, ↓a_ne, ↓a_lt, ↓a_le, ↓a_gt, ↓a_ge, ↓a_ltS, ↓a_leS, ↓a_inS, ↓a_ninS, ↓a_inL, ↓a_ninL, ↓a_inT, ↓a_ninT, ↓a_ixL, ↓a_ixT, ↓a_ixS, ↓a_ixR, ↓a_ixB, ↓a_slL, ↓a_slT, ↓a_slS, ↓a_lenS, ↓a_lenL, ↓a_lenT, ↓a_lenR, ↓a_join, ↓a_ixof, ↓a_ixofL, ↓a_rng1, ↓a_rng2, ↓a_min2, ↓a_max2, ↓a_lstS, ↓a_lstL, ↓a_lstT, ↓a_int, ↓a_intB, ↓a_isN, ↓x_popAt, ↓x_all, ↓x_anyB, ↓a_isB, ↓a_pop, ↓x_dict0, ↓x_aK, ↓x_kg, ↓x_ks, ↓x_dg, ↓x_di, ↓x_dpt, ↓x_enum, ↓a_backL, ↓a_backT, ↓x_never, ↓a_tupL, ↓a_tupT, ↓x_sort, ↓x_sortS, ↓x_sortP, ↓a_slR, ↓x_zip, ↓x_sum, ↓a_count, ↓augC_i, ↓x_aug, ↓x_par, ↓x_raise, ↓x_callX, ↓x_try, ↓x_subA, ↓x_setN, ↓a_two, ↓x_swIx, ↓x_mkX, ↓x_mk0, ↓x_raise0, ↓a_exB, ↓a_tbl, ↓a_cbl, ↓x_isX, ↓x_xattr, rvC_d, rvC_own, consO_s, isTy_s, isTy_l, mgC_own, walk_l, walk_t, walk_s, toR_d, toR_o, items_l, items_t, ok_s, ok_i, ok_b, ok_n, ok_l, ok_t, okL_n, okL_c, e_ss, e_ii, e_bb, e_ll, e_tt, eL_nn, eL_cc, eL_nc, eL_cn, ty_s, ty_i, ty_l, ty_b, kgC_dK, key_i, key_s, kI_eq, kS_eq, oneR_1, walkE_l, walkE_t, walkE_s, ty_t, twoR_2, side_l, side_t, twoD_2, ow_nil, ow_un, ow_d, m_app, m_ext, m_rev, sline, startC, restE, restC, wipeE, wipeC, plainC, List.getElem?_cons_zero, List.getElem?_cons_succ, List.getD_cons_zero, List.getD_cons_succ, List.set_cons_zero, List.set_cons_succ, List.length_cons, List.length_nil, List.map_cons, List.map_nil, List.replicate_succ, List.replicate_zero, List.cons_append, List.nil_append, Nat.reduceAdd, Nat.reduceMul, Int.reduceAdd, Int.reduceSub, Int.reduceMul, Nat.reduceSub, Nat.reduceLT, Nat.reduceLeDiff, Nat.lt_add_one, Int.reduceNeg, Int.reduceLT, Int.reduceLE, Int.reduceToNat, Int.reducePow, Nat.reducePow, List.flatten_cons, List.flatten_nil, List.append_nil, true_and, and_true, true_or, or_true, eq_self, and_self, decide_true, decide_false, Bool.not_true, Bool.not_false, Bool.not_not, Option.isSome_some, Bool.and_true, Bool.true_and, Bool.and_self, reduceIte, ↓reduceIte, Bool.false_eq_true, ite_self, reduceCtorEq, ne_eq, not_false_eq_true, forall_const, ↓x_gtup, ↓a_repr, ↓x_min1, ↓a_min2S, ↓x_yes, ↓x_ite, x_gnil, walk_l, walk_t, walk_s, e_take]
        intro i i0 i1
        refine at_mem i0 i1 fun c hc => ?_
        simp -dsimp only [↓opt_some, ↓br_true, ↓br_false, ↓nameC_d, ↓nameC_own, ↓nameC_dK, ↓nameC_dT, ↓x_name, ↓fzC_d, ↓fzC_own, ↓x_fzn, ↓x_fzd, ↓x_fzo, ↓x_rvn, ↓x_rvd, ↓x_rvo, ↓retC_d, ↓retC_own, ↓x_retn, ↓x_retd, ↓x_reto, ↓x_hd, ↓x_ho, ↓x_hn, ↓x_ad, ↓x_ao, ↓x_an, ↓x_set, ↓x_seq, ↓x_next, ↓x_break, ↓x_cont, ↓x_drop, ↓x_ret, ↓x_retN, ↓x_if, ↓x_asg, ↓x_asgG, ↓x_while, ↓x_for, ↓x_2, ↓x_1, ↓x_D, ↓bC_b, ↓x_B, ↓x_and, ↓x_or, ↓x_not, ↓x_andV, ↓x_orV, ↓x_notV, ↓x_tif, ↓x_nil, ↓x_cons, ↓x_tup, ↓x_lst, ↓x_rnil, ↓x_rcons, ↓x_callP, ↓x_rvLc, ↓x_rvLn, ↓x_meth, ↓x_meth0, ↓x_mut, ↓x_mg, ↓x_ms, ↓x_sl, ↓x_on, ↓iC_i, ↓x_os, ↓x_lc, ↓x_any, ↓x_pure, ↓sC_s, ↓x_rev, ↓x_call, ↓x_gn, ↓x_gnil, ↓x_gcons, ↓x_isi, ↓a_ii, ↓a_ss, ↓a_ll, ↓a_tt, ↓a_I, ↓a_neg, ↓a_mul, ↓a_mulL, ↓a_mulS, ↓a_eq, ↓a_ne, ↓a_lt, ↓a_le, ↓a_gt, ↓a_ge, ↓a_ltS, ↓a_leS, ↓a_inS, ↓a_ninS, ↓a_inL, ↓a_ninL, ↓a_inT, ↓a_ninT, ↓a_ixL, ↓a_ixT, ↓a_ixS, ↓a_ixR, ↓a_ixB, ↓a_slL, ↓a_slT, ↓a_slS, ↓a_lenS, ↓a_lenL, ↓a_lenT, ↓a_lenR, ↓a_join, ↓a_ixof, ↓a_ixofL, ↓a_rng1, ↓a_rng2, ↓a_min2, ↓a_max2, ↓a_lstS, ↓a_lstL, ↓a_lstT, ↓a_int, ↓a_intB, ↓a_isN, ↓x_popAt, ↓x_all, ↓x_anyB, ↓a_isB, ↓a_pop, ↓x_dict0, ↓x_aK, ↓x_kg, ↓x_ks, ↓x_dg, ↓x_di, ↓x_dpt, ↓x_enum, ↓a_backL, ↓a_backT, ↓x_never, ↓a_tupL, ↓a_tupT, ↓x_sort, ↓x_sortS, ↓x_sortP, ↓a_slR, ↓x_zip, ↓x_sum, ↓a_count, ↓augC_i, ↓x_aug, ↓x_par, ↓x_raise, ↓x_callX, ↓x_try, ↓x_subA, ↓x_setN, ↓a_two, ↓x_swIx, ↓x_mkX, ↓x_mk0, ↓x_raise0, ↓a_exB, ↓a_tbl, ↓a_cbl, ↓x_isX, ↓x_xattr, rvC_d, rvC_own, consO_s, isTy_s, isTy_l, mgC_own, walk_l, walk_t, walk_s, toR_d, toR_o, items_l, items_t, ok_s, ok_i, ok_b, ok_n, ok_l, ok_t, okL_n, okL_c, e_ss, e_ii, e_bb, e_ll, e_tt, eL_nn, eL_cc, eL_nc, eL_cn, ty_s, ty_i, ty_l, ty_b, kgC_dK, key_i, key_s, kI_eq, kS_eq, oneR_1, walkE_l, walkE_t, walkE_s, ty_t, twoR_2, side_l, side_t, twoD_2, ow_nil, ow_un, ow_d, m_app, m_ext, m_rev, sline, startC, restE, restC, wipeE, wipeC, plainC, List.getElem?_cons_zero, List.getElem?_cons_succ, List.getD_cons_zero, List.getD_cons_succ, List.set_cons_zero, List.set_cons_succ, List.length_cons, List.length_nil, List.map_cons, List.map_nil, List.replicate_succ, List.replicate_zero, List.cons_append, List.nil_append, Nat.reduceAdd, Nat.reduceMul, Int.reduceAdd, Int.reduceSub, Int.reduceMul, Nat.reduceSub, Nat.reduceLT, Nat.reduceLeDiff, Nat.lt_add_one, Int.reduceNeg, Int.reduceLT, Int.reduceLE, Int.reduceToNat, Int.reducePow, Nat.reducePow, List.flatten_cons, List.flatten_nil, List.append_nil, true_and, and_true, true_or, or_true, eq_self, and_self, decide_true, decide_false, Bool.not_true, Bool.not_false, Bool.not_not, Option.isSome_some, Bool.and_true, Bool.true_and, Bool.and_self, reduceIte, ↓reduceIte, Bool.false_eq_true, ite_self, reduceCtorEq, ne_eq, not_false_eq_true, forall_const, ↓x_gtup, ↓a_repr, ↓x_min1, ↓a_min2S, ↓x_yes, ↓x_ite, x_gnil, walk_l, walk_t, walk_s]
        exact k _ ⟨c, hc, rfl⟩
      · obtain ⟨w, rfl, hw, wl⟩ := all2_signs hys
        rw [rngI_length] at wl
        simp -dsimp only [↓opt_some, ↓br_true, ↓br_false, ↓nameC_d, ↓nameC_own, ↓nameC_dK, ↓nameC_dT, ↓x_name, ↓fzC_d, ↓fzC_own, ↓x_fzn, ↓x_fzd, ↓x_fzo, ↓x_rvn, ↓x_rvd, ↓x_rvo, ↓retC_d, ↓retC_own, ↓x_retn, ↓x_retd, ↓x_reto, ↓x_hd, ↓x_ho, ↓x_hn, ↓x_ad, ↓x_ao, ↓x_an, ↓x_set, ↓x_seq, ↓x_next, ↓x_break, ↓x_cont, ↓x_drop, ↓x_ret, ↓x_retN, ↓x_if, ↓x_asg, ↓x_asgG, ↓x_while, ↓x_for, ↓x_2, ↓x_1, ↓x_D, ↓bC_b, ↓x_B, ↓x_and, ↓x_or, ↓x_not, ↓x_andV, ↓x_orV, ↓x_notV, ↓x_tif, ↓x_nil, ↓x_cons, ↓x_tup, ↓x_lst, ↓x_rnil, ↓x_rcons, ↓x_callP, ↓x_rvLc, ↓x_rvLn, ↓x_meth, ↓x_meth0, ↓x_mut, ↓x_mg, ↓x_ms, ↓x_sl, ↓x_on, ↓iC_i, ↓x_os, ↓x_lc, ↓x_any, ↓x_pure, ↓sC_s, ↓x_rev, ↓x_call, ↓x_gn, ↓x_gnil, ↓x_gcons, ↓x_isi, ↓a_ii, ↓a_ss, ↓a_ll, ↓a_tt, ↓a_I, ↓a_neg, ↓a_mul, ↓a_mulL, ↓a_mulS, ↓a_eq, ↓a_ne, ↓a_lt, ↓a_le, ↓a_gt, ↓a_ge, ↓a_ltS, ↓a_leS, ↓a_inS, ↓a_ninS, ↓a_inL, ↓a_ninL, ↓a_inT, ↓a_ninT, ↓a_ixL, ↓a_ixT, ↓a_ixS, ↓a_ixR, ↓a_ixB, ↓a_slL, ↓a_slT, ↓a_slS, ↓a_lenS, ↓a_lenL, ↓a_lenT, ↓a_lenR, ↓a_join, ↓a_ixof, ↓a_ixofL, ↓a_rng1, ↓a_rng2, ↓a_min2, ↓a_max2, ↓a_lstS, ↓a_lstL, ↓a_lstT, ↓a_int, ↓a_intB, ↓a_isN, ↓x_popAt, ↓x_all, ↓x_anyB, ↓a_isB, ↓a_pop, ↓x_dict0, ↓x_aK, ↓x_kg, ↓x_ks, ↓x_dg, ↓x_di, ↓x_dpt, ↓x_enum, ↓a_backL, ↓a_backT, ↓x_never, ↓a_tupL, ↓a_tupT, ↓x_sort, ↓x_sortS, ↓x_sortP, ↓a_slR, ↓x_zip, ↓x_sum, ↓a_count, ↓augC_i, ↓x_aug, ↓x_par, ↓x_raise, ↓x_callX, ↓x_try, ↓x_subA, ↓x_setN, ↓a_two, ↓x_swIx, ↓x_mkX, ↓x_mk0, ↓x_raise0, ↓a_exB, ↓a_tbl, ↓a_cbl, ↓x_isX, ↓x_xattr, rvC_d, rvC_own, consO_s, isTy_s, isTy_l, mgC_own, walk_l, walk_t, walk_s, toR_d, toR_o, items_l, items_t, ok_s, ok_i, ok_b, ok_n, ok_l, ok_t, okL_n, okL_c, e_ss, e_ii, e_bb, e_ll, e_tt, eL_nn, eL_cc, eL_nc, eL_cn, ty_s, ty_i, ty_l, ty_b, kgC_dK, key_i, key_s, kI_eq, kS_eq, oneR_1, walkE_l, walkE_t, walkE_s, ty_t, twoR_2, side_l, side_t, twoD_2, ow_nil, ow_un, ow_d, m_app, m_ext, m_rev, sline, startC, restE, restC, wipeE, wipeC, plainC, List.getElem?_cons_zero, List.getElem?_cons_succ, List.getD_cons_zero, List.getD_cons_succ, List.set_cons_zero, List.set_cons_succ, List.length_cons, List.length_nil, List.map_cons, List.map_nil, List.replicate_succ, List.replicate_zero, List.cons_append, List.nil_append, Nat.reduceAdd, Nat.reduceMul, Int.reduceAdd, Int.reduceSub, Int.reduceMul, Nat.reduceSub, Nat.reduceLT, Nat.reduceLeDiff, Nat.lt_add_one, Int.reduceNeg, Int.reduceLT, Int.reduceLE, Int.reduceToNat, Int.reducePow, Nat.reducePow, List.flatten_cons, List.flatten_nil, List.append_nil, true_and, and_true, true_or, or_true, eq_self, and_self, decide_true, decide_false, Bool.not_true, Bool.not_false, Bool.not_not, Option.isSome_some, Bool.and_true, Bool.true_and, Bool.and_self, reduceIte, ↓reduceIte, Bool.false_eq_true, ite_self, reduceCtorEq, ne_eq, not_false_eq_true, forall_const, ↓x_gtup, ↓a_repr, ↓x_min1, ↓a_min2S, ↓x_yes, ↓x_ite, x_gnil, walk_l, walk_t, walk_s, strL_signs, joinN_signs, e_made]
        refine ⟨len_signs' (by omega), by rw [List.length_map]; omega, ?_⟩
        refine hN _ ⟨L ++ [(v, w)], .d (.int (0 + (j : Nat))), .d (.int v), .d (.str w), by rw [List.length_append, hl]; rfl, fun p hp => ?_, ?_⟩
        · rcases List.mem_append.mp hp with hp | hp
          · exact hL p hp
          · have hp : p = (v, w) := by simpa using hp
            subst hp
            exact ⟨v0, v1, by show w.length ≤ 9; omega, hw⟩
        · rw [List.map_append]
          rfl
  · exact h.elim
end Pu
set_option maxRecDepth 100000
set_option maxHeartbeats 4000000
namespace Lw
open PySem L2 Pu 
def top (i : Nat) : Stmt := PySem.Challenge.pw_mustmeet_k01_refusals.main.body.getD i (.Pass ⟨0, 0, 0, 0⟩)
abbrev s_law_box : Stmt := top 16
def t_law_box : PTS := sSeq (sAsg 2 (t2 (t2 (tD (.int 7919)) (tName 1) pMul) (tD (.int 11)) pAdd)) (sSeq (sIf (tB (t2 (tName 1) (tCallP pLen (rCons (tName 0) (rNil))) pLt)) (sAsg 2 (t2 (tName 0) (tName 1) pIx)) (sIf (tB (t2 (tCallP pLen (rCons (tName 0) (rNil))) (tD (.int 0)) pGt)) (sAsg 2 (t2 (tName 2) (t2 (t2 (t2 (tName 0) (t2 (tName 1) (tCallP pLen (rCons (tName 0) (rNil))) pMod) pIx) (tD (.int 2147483629)) pMod) (tD (.int 69623)) pMul) pAdd)) (sNext))) (sSeq (sAsg 3 (t2 (t2 (t2 (t2 (t2 (tName 2) (tD (.int 2147483629)) pMod) (t2 (tD (.int 104729)) (tName 1) pMul) pAdd) (tD (.int 1)) pAdd) (tD (.int 5)) pPow) (tD (.int 2147483647)) pMod)) (sRet (tLst (tCons (t2 (tLst (tCons (tD (.int 0)) (tCons (tName 2) (tNil)))) (tCallP pInt (rCons (t2 (tName 2) (t2 (tD (.int 10)) (tD (.int 18)) pPow) pGe) (rNil))) pIx) (tCons (t2 (t2 (tName 3) (tD (.int 2147483646)) pMod) (tD (.int 1)) pAdd) (tNil)))))))
abbrev N_law_box : List Str := ["_law_script", "_law_k", "_law_cell", "_law_seed"]
theorem sc_law_box : FnScope N_law_box ["_law_script", "_law_k"] (defScope s_law_box) := ⟨rfl, rfl, rfl, by decide +kernel, rfl, by decide +kernel, by decide +kernel⟩
abbrev s_law_take : Stmt := top 17
def t_law_take : PTS := sSeq (sIf (tB (t2 (t2 (tName 0) (tD (.int 0)) pIx) (tD (.int 0)) pGt)) (sSeq (sAsg 3 (t2 (t2 (tName 0) (tD (.int 0)) pIx) (tName 1) pMod)) (sSeq (sSetIx (t2 (t2 (tName 0) (tD (.int 0)) pIx) (tName 1) pFdiv) (tName 0) (tD (.int 0))) (sRet (tName 3)))) (sNext)) (sSeq (sAsg 2 (t2 (t2 (t2 (tName 0) (tD (.int 1)) pIx) (tD (.int 69623)) pMul) (tD (.int 2147483647)) pMod)) (sSeq (sSetIx (t2 (t2 (t2 (t2 (tName 2) (tD (.int 48271)) pMul) (tD (.int 30103)) pAdd) (tD (.int 2147483629)) pMod) (tD (.int 1)) pAdd) (tName 0) (tD (.int 1))) (sRet (t2 (t2 (t2 (t2 (tName 2) (tD (.int 2147483647)) pMul) (t2 (tName 0) (tD (.int 1)) pIx) pAdd) (tD (.int 8191)) pFdiv) (tName 1) pMod))))
abbrev N_law_take : List Str := ["_law_box_here", "_law_many", "_law_one", "_law_digit"]
theorem sc_law_take : FnScope N_law_take ["_law_box_here", "_law_many"] (defScope s_law_take) := ⟨rfl, rfl, rfl, by decide +kernel, rfl, by decide +kernel, by decide +kernel⟩
abbrev s_law_made : Stmt := top 18
def t_law_made : PTS := sSeq (sAsg 2 (tLst (tCons (tMkX 0 ["at"] (tCons (tName 0) (tNil))) (tCons (tMkX 1 ["at"] (tCons (tName 0) (tNil))) (tCons (tMkX 2 ["word", "at"] (tCons (tName 1) (tCons (tName 0) (tNil)))) (tCons (tMkX 3 ["row"] (tCons (tName 0) (tNil))) (tCons (tMkX 4 ["at"] (tCons (tName 0) (tNil))) (tCons (tMkX 5 ["word"] (tCons (tName 1) (tNil))) (tNil))))))))) (sSeq (sAsg 2 (t2 (tName 2) (tLst (tCons (tMkX 6 ["name"] (tCons (tName 1) (tNil))) (tCons (tMkX 7 ["name"] (tCons (tName 1) (tNil))) (tCons (tMkX 8 ["name"] (tCons (tName 1) (tNil))) (tCons (tMk0 9) (tCons (tMk0 10) (tCons (tMk0 11) (tCons (tMk0 12) (tNil))))))))) pAdd)) (sRet (tName 2)))
abbrev N_law_made : List Str := ["_law_number", "_law_word", "_law_found"]
theorem sc_law_made : FnScope N_law_made ["_law_number", "_law_word"] (defScope s_law_made) := ⟨rfl, rfl, rfl, by decide +kernel, rfl, by decide +kernel, by decide +kernel⟩
abbrev s_law_kinds : Stmt := top 19
def t_law_kinds : PTS := sSeq (sAsg 1 (tLst (tCons (tIsX (tbl [true, false, false, false, false, false, false, false, false, false, false, false, false]) (tName 0)) (tCons (tIsX (tbl [false, true, false, false, false, false, false, false, false, false, false, false, false]) (tName 0)) (tCons (tIsX (tbl [false, false, true, false, false, false, false, false, false, false, false, false, false]) (tName 0)) (tCons (tIsX (tbl [false, false, false, true, false, false, false, false, false, false, false, false, false]) (tName 0)) (tNil))))))) (sSeq (sAsg 1 (t2 (tName 1) (tLst (tCons (tIsX (tbl [false, false, false, false, true, false, false, false, false, false, false, false, false]) (tName 0)) (tCons (tIsX (tbl [false, false, false, false, false, true, false, false, false, false, false, false, false]) (tName 0)) (tCons (tIsX (tbl [false, false, false, false, false, false, true, false, false, false, false, false, false]) (tName 0)) (tCons (tIsX (tbl [false, false, false, false, false, false, false, true, false, false, false, false, false]) (tName 0)) (tNil)))))) pAdd)) (sSeq (sAsg 1 (t2 (tName 1) (tLst (tCons (tIsX (tbl [false, false, false, false, false, false, false, false, true, false, false, false, false]) (tName 0)) (tCons (tIsX (tbl [false, false, false, false, false, false, false, false, false, true, false, false, false]) (tName 0)) (tCons (tIsX (tbl [false, false, false, false, false, false, false, false, false, false, true, false, false]) (tName 0)) (tCons (tIsX (tbl [false, false, false, false, false, false, false, false, false, false, false, true, false]) (tName 0)) (tNil)))))) pAdd)) (sRet (t2 (tName 1) (tLst (tCons (tIsX (tbl [false, false, false, false, false, false, false, false, false, false, false, false, true]) (tName 0)) (tCons (tIsX (tbl [true, true, true, true, true, true, true, true, true, true, true, true, true]) (tName 0)) (tCons (tIsX (tbl [true, true, true, true, true, true, true, true, true, true, true, true, true]) (tName 0)) (tNil))))) pAdd))))
abbrev N_law_kinds : List Str := ["_law_e", "_law_found"]
theorem sc_law_kinds : FnScope N_law_kinds ["_law_e"] (defScope s_law_kinds) := ⟨rfl, rfl, rfl, by decide +kernel, rfl, by decide +kernel, by decide +kernel⟩
abbrev s_law_caught : Stmt := top 20
def t_law_caught : PTS := sSeq (sAsg 3 (tD .non)) (sSeq (sTry 5 4 flds1 (cbl 13) (sSeq (sIf (tB (t2 (tName 0) (tD (.int 0)) pEq)) (sRaise 2 2 (tCons (tName 2) (tCons (tName 1) (tNil)))) (sNext)) (sSeq (sIf (tB (t2 (tName 0) (tD (.int 1)) pEq)) (sRaise 8 1 (tCons (tName 2) (tNil))) (sNext)) (sRaise0 11))) (sAsg 3 (tName 4))) (sRet (tName 3)))
abbrev N_law_caught : List Str := ["_law_way", "_law_number", "_law_word", "_law_found", "_law_e"]
theorem sc_law_caught : FnScope N_law_caught ["_law_way", "_law_number", "_law_word"] (defScope s_law_caught) := ⟨rfl, rfl, rfl, by decide +kernel, rfl, by decide +kernel, by decide +kernel⟩
abbrev s_law_fields : Stmt := top 21
def t_law_fields : PTS := sSeq (sAsg 1 (tLst (tCons (tXA "at" (cbT [true, true, true, false, true, false, false, false, false, false, false, false, false]) (t2 (tName 0) (tD (.int 0)) pIx)) (tCons (tXA "at" (cbT [true, true, true, false, true, false, false, false, false, false, false, false, false]) (t2 (tName 0) (tD (.int 1)) pIx)) (tCons (tXA "word" (cbT [false, false, true, false, false, true, false, false, false, false, false, false, false]) (t2 (tName 0) (tD (.int 2)) pIx)) (tCons (tXA "at" (cbT [true, true, true, false, true, false, false, false, false, false, false, false, false]) (t2 (tName 0) (tD (.int 2)) pIx)) (tCons (tXA "row" (cbT [false, false, false, true, false, false, false, false, false, false, false, false, false]) (t2 (tName 0) (tD (.int 3)) pIx)) (tCons (tXA "at" (cbT [true, true, true, false, true, false, false, false, false, false, false, false, false]) (t2 (tName 0) (tD (.int 4)) pIx)) (tCons (tXA "word" (cbT [false, false, true, false, false, true, false, false, false, false, false, false, false]) (t2 (tName 0) (tD (.int 5)) pIx)) (tNil)))))))))) (sRet (t2 (tName 1) (tLst (tCons (tXA "name" (cbT [false, false, false, false, false, false, true, true, true, false, false, false, false]) (t2 (tName 0) (tD (.int 6)) pIx)) (tCons (tXA "name" (cbT [false, false, false, false, false, false, true, true, true, false, false, false, false]) (t2 (tName 0) (tD (.int 7)) pIx)) (tCons (tXA "name" (cbT [false, false, false, false, false, false, true, true, true, false, false, false, false]) (t2 (tName 0) (tD (.int 8)) pIx)) (tNil))))) pAdd))
abbrev N_law_fields : List Str := ["_law_made_here", "_law_found"]
theorem sc_law_fields : FnScope N_law_fields ["_law_made_here"] (defScope s_law_fields) := ⟨rfl, rfl, rfl, by decide +kernel, rfl, by decide +kernel, by decide +kernel⟩
abbrev s_law : Stmt := top 22
def t_law : PTS := sSeq (sAsg 1 (tCall0 m_law_box (tCons (tName 0) (tCons (tD (.int 0)) (tNil))))) (sSeq (sAsg 2 (tLst (tNil))) (sSeq (sFor (iPure pRng1 (rCons (tD (.int 2)) (rNil))) (gName 3) (sSeq (sAsg 4 (t2 (tLst (tCons (t2 (tCall0 m_law_take (tCons (tName 1) (tCons (tD (.int 9)) (tNil)))) (tD (.int 2)) pSub) (tCons (tCall0 m_law_take (tCons (tName 1) (tCons (t2 (tD (.int 10)) (tD (.int 12)) pPow) (tNil)))) (tNil)))) (tCall0 m_law_take (tCons (tName 1) (tCons (tD (.int 2)) (tNil)))) pIx)) (sSeq (sAsg 5 (tMeth "str" pJoin (tD (.str [])) (rCons (cLc (iPure pRng1 (rCons (tCall0 m_law_take (tCons (tName 1) (tCons (tD (.int 9)) (tNil)))) (rNil))) (gName 10) (cYes) (t2 (tD (.str SM)) (tCall0 m_law_take (tCons (tName 1) (tCons (tD (.int 26)) (tNil)))) pIx) [10]) (rNil)))) (sDrop (tMut mAppend (tName 2) (tCons (tTup (tCons (tName 4) (tCons (tName 5) (tCons (tCall0 m_law_made (tCons (tName 4) (tCons (tName 5) (tNil)))) (tNil))))) (tNil))))))) (sSeq (sFor (iAny (tName 2)) (gTup 3 (gCons (gName 4) (gCons (gName 5) (gCons (gName 6) (gNil))))) (sSeq (sIf (tB (t2 (tCallP pRepr (rCons (tCall0 m_law_fields (tCons (tName 6) (tNil))) (rNil))) (tCallP pRepr (rCons (t2 (tLst (tCons (tName 4) (tCons (tName 4) (tCons (tName 5) (tCons (tName 4) (tCons (tName 4) (tCons (tName 4) (tNil)))))))) (t2 (tLst (tCons (tName 5) (tNil))) (tD (.int 4)) pMul) pAdd) (rNil))) pNe)) (sRet (tD (.bl false))) (sNext)) (sSeq (sFor (iEnumP (rCons (tName 6) (rNil))) (gTup 2 (gCons (gName 3) (gCons (gName 7) (gNil)))) (sIf (tB (t2 (tCall0 m_law_kinds (tCons (tName 7) (tNil))) (t2 (cLc (iPure pRng1 (rCons (tD (.int 13)) (rNil))) (gName 10) (cYes) (t2 (tName 10) (tName 3) pEq) [10]) (tLst (tCons (tD (.bl true)) (tCons (tD (.bl true)) (tNil)))) pAdd) pNe)) (sRet (tD (.bl false))) (sNext))) (sFor (iAny (tTup (tCons (tTup (tCons (tD (.int 0)) (tCons (tD (.int 2)) (tNil)))) (tCons (tTup (tCons (tD (.int 1)) (tCons (tD (.int 8)) (tNil)))) (tCons (tTup (tCons (tD (.int 2)) (tCons (tD (.int 11)) (tNil)))) (tNil)))))) (gTup 2 (gCons (gName 8) (gCons (gName 9) (gNil)))) (sIf (tB (t2 (tCall0 m_law_kinds (tCons (tCall0 m_law_caught (tCons (tName 8) (tCons (tName 4) (tCons (tName 5) (tNil))))) (tNil))) (tCall0 m_law_kinds (tCons (t2 (tName 6) (tName 9) pIx) (tNil))) pNe)) (sRet (tD (.bl false))) (sNext)))))) (sRet (tD (.bl true))))))
abbrev N_law : List Str := ["_law_script", "_law_box_here", "_law_both", "_law_k", "_law_number", "_law_word", "_law_made_here", "_law_e", "_law_way", "_law_at", "_law_j"]
theorem sc_law : FnScope N_law ["_law_script"] (defScope s_law) := ⟨rfl, rfl, rfl, by decide +kernel, rfl, by decide +kernel, by decide +kernel⟩
abbrev s_NoYard : Stmt := inClass (top 2) 0
abbrev s_NoWord : Stmt := inClass (top 3) 0
abbrev s_NoDrawing : Stmt := inClass (top 4) 0
abbrev s_NoText : Stmt := inClass (top 5) 0
abbrev s_NoDeed : Stmt := inClass (top 6) 0
abbrev s_NoPaper : Stmt := inClass (top 7) 0
abbrev s_Twice : Stmt := inClass (top 11) 0
abbrev s_NoName : Stmt := inClass (top 12) 0
abbrev s_TooLong : Stmt := inClass (top 13) 0
structure Tx (K : PySem.W.Frag) (mg : Str → Option Value) where
  f_law_box : Addr
  fd_law_box : FuncData
  d_law_box : DefOk K mg "_law_box" s_law_box ["_law_script", "_law_k"] f_law_box fd_law_box
  f_law_take : Addr
  fd_law_take : FuncData
  d_law_take : DefOk K mg "_law_take" s_law_take ["_law_box_here", "_law_many"] f_law_take fd_law_take
  f_law_made : Addr
  fd_law_made : FuncData
  d_law_made : DefOk K mg "_law_made" s_law_made ["_law_number", "_law_word"] f_law_made fd_law_made
  f_law_kinds : Addr
  fd_law_kinds : FuncData
  d_law_kinds : DefOk K mg "_law_kinds" s_law_kinds ["_law_e"] f_law_kinds fd_law_kinds
  f_law_caught : Addr
  fd_law_caught : FuncData
  d_law_caught : DefOk K mg "_law_caught" s_law_caught ["_law_way", "_law_number", "_law_word"] f_law_caught fd_law_caught
  f_law_fields : Addr
  fd_law_fields : FuncData
  d_law_fields : DefOk K mg "_law_fields" s_law_fields ["_law_made_here"] f_law_fields fd_law_fields
  f_law : Addr
  fd_law : FuncData
  d_law : DefOk K mg "law" s_law ["_law_script"] f_law fd_law
  C_MeetError : Addr
  g_MeetError : mg "MeetError" = some (.ref C_MeetError)
  C_NoCut : Addr
  g_NoCut : mg "NoCut" = some (.ref C_NoCut)
  C_NoDeed : Addr
  g_NoDeed : mg "NoDeed" = some (.ref C_NoDeed)
  C_NoDrawing : Addr
  g_NoDrawing : mg "NoDrawing" = some (.ref C_NoDrawing)
  C_NoName : Addr
  g_NoName : mg "NoName" = some (.ref C_NoName)
  C_NoPaper : Addr
  g_NoPaper : mg "NoPaper" = some (.ref C_NoPaper)
  C_NoRow : Addr
  g_NoRow : mg "NoRow" = some (.ref C_NoRow)
  C_NoText : Addr
  g_NoText : mg "NoText" = some (.ref C_NoText)
  C_NoWord : Addr
  g_NoWord : mg "NoWord" = some (.ref C_NoWord)
  C_NoYard : Addr
  g_NoYard : mg "NoYard" = some (.ref C_NoYard)
  C_NotApart : Addr
  g_NotApart : mg "NotApart" = some (.ref C_NotApart)
  C_NotLone : Addr
  g_NotLone : mg "NotLone" = some (.ref C_NotLone)
  C_TooLong : Addr
  g_TooLong : mg "TooLong" = some (.ref C_TooLong)
  C_Twice : Addr
  g_Twice : mg "Twice" = some (.ref C_Twice)
  br : PySem.W.readsIn K C_MeetError (.type "type") = true
  bs : PySem.W.specialIn K (.ref C_MeetError) "__getattribute__" = some (some (.builtin "type.__getattribute__"))
  bv : PySem.W.findCls K (.ref C_MeetError) (.type "type") "__init__" = some (.val (.builtin "ValueError.__init__"))
  o_NoYard : OexC K C_NoYard
  e_NoYard : ExcC K C_NoYard
  i_NoYard : Addr
  fi_NoYard : FuncData
  ii_NoYard : PySem.W.findIn K (.ref C_NoYard) "__init__" = some (some (.ref i_NoYard))
  it_NoYard : PySem.W.typeIn K (.ref i_NoYard) = some (.type "function")
  if_NoYard : Fun K "__init__" "NoYard.__init__" s_NoYard i_NoYard fi_NoYard
  ib_NoYard : Binds K fi_NoYard ["self", "at"] []
  o_NoWord : OexC K C_NoWord
  e_NoWord : ExcC K C_NoWord
  i_NoWord : Addr
  fi_NoWord : FuncData
  ii_NoWord : PySem.W.findIn K (.ref C_NoWord) "__init__" = some (some (.ref i_NoWord))
  it_NoWord : PySem.W.typeIn K (.ref i_NoWord) = some (.type "function")
  if_NoWord : Fun K "__init__" "NoWord.__init__" s_NoWord i_NoWord fi_NoWord
  ib_NoWord : Binds K fi_NoWord ["self", "at"] []
  o_NoDrawing : OexC K C_NoDrawing
  e_NoDrawing : ExcC K C_NoDrawing
  i_NoDrawing : Addr
  fi_NoDrawing : FuncData
  ii_NoDrawing : PySem.W.findIn K (.ref C_NoDrawing) "__init__" = some (some (.ref i_NoDrawing))
  it_NoDrawing : PySem.W.typeIn K (.ref i_NoDrawing) = some (.type "function")
  if_NoDrawing : Fun K "__init__" "NoDrawing.__init__" s_NoDrawing i_NoDrawing fi_NoDrawing
  ib_NoDrawing : Binds K fi_NoDrawing ["self", "word", "at"] []
  o_NoText : OexC K C_NoText
  e_NoText : ExcC K C_NoText
  i_NoText : Addr
  fi_NoText : FuncData
  ii_NoText : PySem.W.findIn K (.ref C_NoText) "__init__" = some (some (.ref i_NoText))
  it_NoText : PySem.W.typeIn K (.ref i_NoText) = some (.type "function")
  if_NoText : Fun K "__init__" "NoText.__init__" s_NoText i_NoText fi_NoText
  ib_NoText : Binds K fi_NoText ["self", "row"] []
  o_NoDeed : OexC K C_NoDeed
  e_NoDeed : ExcC K C_NoDeed
  i_NoDeed : Addr
  fi_NoDeed : FuncData
  ii_NoDeed : PySem.W.findIn K (.ref C_NoDeed) "__init__" = some (some (.ref i_NoDeed))
  it_NoDeed : PySem.W.typeIn K (.ref i_NoDeed) = some (.type "function")
  if_NoDeed : Fun K "__init__" "NoDeed.__init__" s_NoDeed i_NoDeed fi_NoDeed
  ib_NoDeed : Binds K fi_NoDeed ["self", "at"] []
  o_NoPaper : OexC K C_NoPaper
  e_NoPaper : ExcC K C_NoPaper
  i_NoPaper : Addr
  fi_NoPaper : FuncData
  ii_NoPaper : PySem.W.findIn K (.ref C_NoPaper) "__init__" = some (some (.ref i_NoPaper))
  it_NoPaper : PySem.W.typeIn K (.ref i_NoPaper) = some (.type "function")
  if_NoPaper : Fun K "__init__" "NoPaper.__init__" s_NoPaper i_NoPaper fi_NoPaper
  ib_NoPaper : Binds K fi_NoPaper ["self", "word"] []
  o_Twice : OexC K C_Twice
  e_Twice : ExcC K C_Twice
  i_Twice : Addr
  fi_Twice : FuncData
  ii_Twice : PySem.W.findIn K (.ref C_Twice) "__init__" = some (some (.ref i_Twice))
  it_Twice : PySem.W.typeIn K (.ref i_Twice) = some (.type "function")
  if_Twice : Fun K "__init__" "Twice.__init__" s_Twice i_Twice fi_Twice
  ib_Twice : Binds K fi_Twice ["self", "name"] []
  o_NoName : OexC K C_NoName
  e_NoName : ExcC K C_NoName
  i_NoName : Addr
  fi_NoName : FuncData
  ii_NoName : PySem.W.findIn K (.ref C_NoName) "__init__" = some (some (.ref i_NoName))
  it_NoName : PySem.W.typeIn K (.ref i_NoName) = some (.type "function")
  if_NoName : Fun K "__init__" "NoName.__init__" s_NoName i_NoName fi_NoName
  ib_NoName : Binds K fi_NoName ["self", "name"] []
  o_TooLong : OexC K C_TooLong
  e_TooLong : ExcC K C_TooLong
  i_TooLong : Addr
  fi_TooLong : FuncData
  ii_TooLong : PySem.W.findIn K (.ref C_TooLong) "__init__" = some (some (.ref i_TooLong))
  it_TooLong : PySem.W.typeIn K (.ref i_TooLong) = some (.type "function")
  if_TooLong : Fun K "__init__" "TooLong.__init__" s_TooLong i_TooLong fi_TooLong
  ib_TooLong : Binds K fi_TooLong ["self", "name"] []
  q_NoCut : PySem.W.excIn K C_NoCut veT "ValueError.__new__" = true
  kc_NoCut : PySem.W.keepIn K (.ref C_NoCut) = true
  ty_NoCut : PySem.W.typeIn K (.ref C_NoCut) = some (.type "type")
  e_NoCut : ExcC K C_NoCut
  q_NotApart : PySem.W.excIn K C_NotApart veT "ValueError.__new__" = true
  kc_NotApart : PySem.W.keepIn K (.ref C_NotApart) = true
  ty_NotApart : PySem.W.typeIn K (.ref C_NotApart) = some (.type "type")
  e_NotApart : ExcC K C_NotApart
  q_NotLone : PySem.W.excIn K C_NotLone veT "ValueError.__new__" = true
  kc_NotLone : PySem.W.keepIn K (.ref C_NotLone) = true
  ty_NotLone : PySem.W.typeIn K (.ref C_NotLone) = some (.type "type")
  e_NotLone : ExcC K C_NotLone
  q_NoRow : PySem.W.excIn K C_NoRow veT "ValueError.__new__" = true
  kc_NoRow : PySem.W.keepIn K (.ref C_NoRow) = true
  ty_NoRow : PySem.W.typeIn K (.ref C_NoRow) = some (.type "type")
  e_NoRow : ExcC K C_NoRow
  x_NoYard_MeetError : PySem.W.exmOne K (.ref C_NoYard) (.ref C_MeetError) = some true
  x_NoWord_MeetError : PySem.W.exmOne K (.ref C_NoWord) (.ref C_MeetError) = some true
  x_NoDrawing_MeetError : PySem.W.exmOne K (.ref C_NoDrawing) (.ref C_MeetError) = some true
  x_NoText_MeetError : PySem.W.exmOne K (.ref C_NoText) (.ref C_MeetError) = some true
  x_NoDeed_MeetError : PySem.W.exmOne K (.ref C_NoDeed) (.ref C_MeetError) = some true
  x_NoPaper_MeetError : PySem.W.exmOne K (.ref C_NoPaper) (.ref C_MeetError) = some true
  x_Twice_MeetError : PySem.W.exmOne K (.ref C_Twice) (.ref C_MeetError) = some true
  x_NoName_MeetError : PySem.W.exmOne K (.ref C_NoName) (.ref C_MeetError) = some true
  x_TooLong_MeetError : PySem.W.exmOne K (.ref C_TooLong) (.ref C_MeetError) = some true
  x_NoCut_MeetError : PySem.W.exmOne K (.ref C_NoCut) (.ref C_MeetError) = some true
  x_NotApart_MeetError : PySem.W.exmOne K (.ref C_NotApart) (.ref C_MeetError) = some true
  x_NotLone_MeetError : PySem.W.exmOne K (.ref C_NotLone) (.ref C_MeetError) = some true
  x_NoRow_MeetError : PySem.W.exmOne K (.ref C_NoRow) (.ref C_MeetError) = some true
  a_NoDeed_at : PySem.W.findIn K (.ref C_NoDeed) "at" = some none
  a_NoDrawing_at : PySem.W.findIn K (.ref C_NoDrawing) "at" = some none
  a_NoDrawing_word : PySem.W.findIn K (.ref C_NoDrawing) "word" = some none
  a_NoName_name : PySem.W.findIn K (.ref C_NoName) "name" = some none
  a_NoPaper_word : PySem.W.findIn K (.ref C_NoPaper) "word" = some none
  a_NoText_row : PySem.W.findIn K (.ref C_NoText) "row" = some none
  a_NoWord_at : PySem.W.findIn K (.ref C_NoWord) "at" = some none
  a_NoYard_at : PySem.W.findIn K (.ref C_NoYard) "at" = some none
  a_TooLong_name : PySem.W.findIn K (.ref C_TooLong) "name" = some none
  a_Twice_name : PySem.W.findIn K (.ref C_Twice) "name" = some none
  k_NoCut_MeetError : PySem.W.kitOne K (.ref C_NoCut) (.ref C_MeetError) = some true
  k_NoCut_NoDeed : PySem.W.kitOne K (.ref C_NoCut) (.ref C_NoDeed) = some false
  k_NoCut_NoDrawing : PySem.W.kitOne K (.ref C_NoCut) (.ref C_NoDrawing) = some false
  k_NoCut_NoName : PySem.W.kitOne K (.ref C_NoCut) (.ref C_NoName) = some false
  k_NoCut_NoPaper : PySem.W.kitOne K (.ref C_NoCut) (.ref C_NoPaper) = some false
  k_NoCut_NoRow : PySem.W.kitOne K (.ref C_NoCut) (.ref C_NoRow) = some false
  k_NoCut_NoText : PySem.W.kitOne K (.ref C_NoCut) (.ref C_NoText) = some false
  k_NoCut_NoWord : PySem.W.kitOne K (.ref C_NoCut) (.ref C_NoWord) = some false
  k_NoCut_NoYard : PySem.W.kitOne K (.ref C_NoCut) (.ref C_NoYard) = some false
  k_NoCut_NotApart : PySem.W.kitOne K (.ref C_NoCut) (.ref C_NotApart) = some false
  k_NoCut_NotLone : PySem.W.kitOne K (.ref C_NoCut) (.ref C_NotLone) = some false
  k_NoCut_TooLong : PySem.W.kitOne K (.ref C_NoCut) (.ref C_TooLong) = some false
  k_NoCut_Twice : PySem.W.kitOne K (.ref C_NoCut) (.ref C_Twice) = some false
  k_NoCut_ValueError : PySem.W.kitOne K (.ref C_NoCut) (.type "ValueError") = some true
  k_NoDeed_MeetError : PySem.W.kitOne K (.ref C_NoDeed) (.ref C_MeetError) = some true
  k_NoDeed_NoCut : PySem.W.kitOne K (.ref C_NoDeed) (.ref C_NoCut) = some false
  k_NoDeed_NoDrawing : PySem.W.kitOne K (.ref C_NoDeed) (.ref C_NoDrawing) = some false
  k_NoDeed_NoName : PySem.W.kitOne K (.ref C_NoDeed) (.ref C_NoName) = some false
  k_NoDeed_NoPaper : PySem.W.kitOne K (.ref C_NoDeed) (.ref C_NoPaper) = some false
  k_NoDeed_NoRow : PySem.W.kitOne K (.ref C_NoDeed) (.ref C_NoRow) = some false
  k_NoDeed_NoText : PySem.W.kitOne K (.ref C_NoDeed) (.ref C_NoText) = some false
  k_NoDeed_NoWord : PySem.W.kitOne K (.ref C_NoDeed) (.ref C_NoWord) = some false
  k_NoDeed_NoYard : PySem.W.kitOne K (.ref C_NoDeed) (.ref C_NoYard) = some false
  k_NoDeed_NotApart : PySem.W.kitOne K (.ref C_NoDeed) (.ref C_NotApart) = some false
  k_NoDeed_NotLone : PySem.W.kitOne K (.ref C_NoDeed) (.ref C_NotLone) = some false
  k_NoDeed_TooLong : PySem.W.kitOne K (.ref C_NoDeed) (.ref C_TooLong) = some false
  k_NoDeed_Twice : PySem.W.kitOne K (.ref C_NoDeed) (.ref C_Twice) = some false
  k_NoDeed_ValueError : PySem.W.kitOne K (.ref C_NoDeed) (.type "ValueError") = some true
  k_NoDrawing_MeetError : PySem.W.kitOne K (.ref C_NoDrawing) (.ref C_MeetError) = some true
  k_NoDrawing_NoCut : PySem.W.kitOne K (.ref C_NoDrawing) (.ref C_NoCut) = some false
  k_NoDrawing_NoDeed : PySem.W.kitOne K (.ref C_NoDrawing) (.ref C_NoDeed) = some false
  k_NoDrawing_NoName : PySem.W.kitOne K (.ref C_NoDrawing) (.ref C_NoName) = some false
  k_NoDrawing_NoPaper : PySem.W.kitOne K (.ref C_NoDrawing) (.ref C_NoPaper) = some false
  k_NoDrawing_NoRow : PySem.W.kitOne K (.ref C_NoDrawing) (.ref C_NoRow) = some false
  k_NoDrawing_NoText : PySem.W.kitOne K (.ref C_NoDrawing) (.ref C_NoText) = some false
  k_NoDrawing_NoWord : PySem.W.kitOne K (.ref C_NoDrawing) (.ref C_NoWord) = some false
  k_NoDrawing_NoYard : PySem.W.kitOne K (.ref C_NoDrawing) (.ref C_NoYard) = some false
  k_NoDrawing_NotApart : PySem.W.kitOne K (.ref C_NoDrawing) (.ref C_NotApart) = some false
  k_NoDrawing_NotLone : PySem.W.kitOne K (.ref C_NoDrawing) (.ref C_NotLone) = some false
  k_NoDrawing_TooLong : PySem.W.kitOne K (.ref C_NoDrawing) (.ref C_TooLong) = some false
  k_NoDrawing_Twice : PySem.W.kitOne K (.ref C_NoDrawing) (.ref C_Twice) = some false
  k_NoDrawing_ValueError : PySem.W.kitOne K (.ref C_NoDrawing) (.type "ValueError") = some true
  k_NoName_MeetError : PySem.W.kitOne K (.ref C_NoName) (.ref C_MeetError) = some true
  k_NoName_NoCut : PySem.W.kitOne K (.ref C_NoName) (.ref C_NoCut) = some false
  k_NoName_NoDeed : PySem.W.kitOne K (.ref C_NoName) (.ref C_NoDeed) = some false
  k_NoName_NoDrawing : PySem.W.kitOne K (.ref C_NoName) (.ref C_NoDrawing) = some false
  k_NoName_NoPaper : PySem.W.kitOne K (.ref C_NoName) (.ref C_NoPaper) = some false
  k_NoName_NoRow : PySem.W.kitOne K (.ref C_NoName) (.ref C_NoRow) = some false
  k_NoName_NoText : PySem.W.kitOne K (.ref C_NoName) (.ref C_NoText) = some false
  k_NoName_NoWord : PySem.W.kitOne K (.ref C_NoName) (.ref C_NoWord) = some false
  k_NoName_NoYard : PySem.W.kitOne K (.ref C_NoName) (.ref C_NoYard) = some false
  k_NoName_NotApart : PySem.W.kitOne K (.ref C_NoName) (.ref C_NotApart) = some false
  k_NoName_NotLone : PySem.W.kitOne K (.ref C_NoName) (.ref C_NotLone) = some false
  k_NoName_TooLong : PySem.W.kitOne K (.ref C_NoName) (.ref C_TooLong) = some false
  k_NoName_Twice : PySem.W.kitOne K (.ref C_NoName) (.ref C_Twice) = some false
  k_NoName_ValueError : PySem.W.kitOne K (.ref C_NoName) (.type "ValueError") = some true
  k_NoPaper_MeetError : PySem.W.kitOne K (.ref C_NoPaper) (.ref C_MeetError) = some true
  k_NoPaper_NoCut : PySem.W.kitOne K (.ref C_NoPaper) (.ref C_NoCut) = some false
  k_NoPaper_NoDeed : PySem.W.kitOne K (.ref C_NoPaper) (.ref C_NoDeed) = some false
  k_NoPaper_NoDrawing : PySem.W.kitOne K (.ref C_NoPaper) (.ref C_NoDrawing) = some false
  k_NoPaper_NoName : PySem.W.kitOne K (.ref C_NoPaper) (.ref C_NoName) = some false
  k_NoPaper_NoRow : PySem.W.kitOne K (.ref C_NoPaper) (.ref C_NoRow) = some false
  k_NoPaper_NoText : PySem.W.kitOne K (.ref C_NoPaper) (.ref C_NoText) = some false
  k_NoPaper_NoWord : PySem.W.kitOne K (.ref C_NoPaper) (.ref C_NoWord) = some false
  k_NoPaper_NoYard : PySem.W.kitOne K (.ref C_NoPaper) (.ref C_NoYard) = some false
  k_NoPaper_NotApart : PySem.W.kitOne K (.ref C_NoPaper) (.ref C_NotApart) = some false
  k_NoPaper_NotLone : PySem.W.kitOne K (.ref C_NoPaper) (.ref C_NotLone) = some false
  k_NoPaper_TooLong : PySem.W.kitOne K (.ref C_NoPaper) (.ref C_TooLong) = some false
  k_NoPaper_Twice : PySem.W.kitOne K (.ref C_NoPaper) (.ref C_Twice) = some false
  k_NoPaper_ValueError : PySem.W.kitOne K (.ref C_NoPaper) (.type "ValueError") = some true
  k_NoRow_MeetError : PySem.W.kitOne K (.ref C_NoRow) (.ref C_MeetError) = some true
  k_NoRow_NoCut : PySem.W.kitOne K (.ref C_NoRow) (.ref C_NoCut) = some false
  k_NoRow_NoDeed : PySem.W.kitOne K (.ref C_NoRow) (.ref C_NoDeed) = some false
  k_NoRow_NoDrawing : PySem.W.kitOne K (.ref C_NoRow) (.ref C_NoDrawing) = some false
  k_NoRow_NoName : PySem.W.kitOne K (.ref C_NoRow) (.ref C_NoName) = some false
  k_NoRow_NoPaper : PySem.W.kitOne K (.ref C_NoRow) (.ref C_NoPaper) = some false
  k_NoRow_NoText : PySem.W.kitOne K (.ref C_NoRow) (.ref C_NoText) = some false
  k_NoRow_NoWord : PySem.W.kitOne K (.ref C_NoRow) (.ref C_NoWord) = some false
  k_NoRow_NoYard : PySem.W.kitOne K (.ref C_NoRow) (.ref C_NoYard) = some false
  k_NoRow_NotApart : PySem.W.kitOne K (.ref C_NoRow) (.ref C_NotApart) = some false
  k_NoRow_NotLone : PySem.W.kitOne K (.ref C_NoRow) (.ref C_NotLone) = some false
  k_NoRow_TooLong : PySem.W.kitOne K (.ref C_NoRow) (.ref C_TooLong) = some false
  k_NoRow_Twice : PySem.W.kitOne K (.ref C_NoRow) (.ref C_Twice) = some false
  k_NoRow_ValueError : PySem.W.kitOne K (.ref C_NoRow) (.type "ValueError") = some true
  k_NoText_MeetError : PySem.W.kitOne K (.ref C_NoText) (.ref C_MeetError) = some true
  k_NoText_NoCut : PySem.W.kitOne K (.ref C_NoText) (.ref C_NoCut) = some false
  k_NoText_NoDeed : PySem.W.kitOne K (.ref C_NoText) (.ref C_NoDeed) = some false
  k_NoText_NoDrawing : PySem.W.kitOne K (.ref C_NoText) (.ref C_NoDrawing) = some false
  k_NoText_NoName : PySem.W.kitOne K (.ref C_NoText) (.ref C_NoName) = some false
  k_NoText_NoPaper : PySem.W.kitOne K (.ref C_NoText) (.ref C_NoPaper) = some false
  k_NoText_NoRow : PySem.W.kitOne K (.ref C_NoText) (.ref C_NoRow) = some false
  k_NoText_NoWord : PySem.W.kitOne K (.ref C_NoText) (.ref C_NoWord) = some false
  k_NoText_NoYard : PySem.W.kitOne K (.ref C_NoText) (.ref C_NoYard) = some false
  k_NoText_NotApart : PySem.W.kitOne K (.ref C_NoText) (.ref C_NotApart) = some false
  k_NoText_NotLone : PySem.W.kitOne K (.ref C_NoText) (.ref C_NotLone) = some false
  k_NoText_TooLong : PySem.W.kitOne K (.ref C_NoText) (.ref C_TooLong) = some false
  k_NoText_Twice : PySem.W.kitOne K (.ref C_NoText) (.ref C_Twice) = some false
  k_NoText_ValueError : PySem.W.kitOne K (.ref C_NoText) (.type "ValueError") = some true
  k_NoWord_MeetError : PySem.W.kitOne K (.ref C_NoWord) (.ref C_MeetError) = some true
  k_NoWord_NoCut : PySem.W.kitOne K (.ref C_NoWord) (.ref C_NoCut) = some false
  k_NoWord_NoDeed : PySem.W.kitOne K (.ref C_NoWord) (.ref C_NoDeed) = some false
  k_NoWord_NoDrawing : PySem.W.kitOne K (.ref C_NoWord) (.ref C_NoDrawing) = some false
  k_NoWord_NoName : PySem.W.kitOne K (.ref C_NoWord) (.ref C_NoName) = some false
  k_NoWord_NoPaper : PySem.W.kitOne K (.ref C_NoWord) (.ref C_NoPaper) = some false
  k_NoWord_NoRow : PySem.W.kitOne K (.ref C_NoWord) (.ref C_NoRow) = some false
  k_NoWord_NoText : PySem.W.kitOne K (.ref C_NoWord) (.ref C_NoText) = some false
  k_NoWord_NoYard : PySem.W.kitOne K (.ref C_NoWord) (.ref C_NoYard) = some false
  k_NoWord_NotApart : PySem.W.kitOne K (.ref C_NoWord) (.ref C_NotApart) = some false
  k_NoWord_NotLone : PySem.W.kitOne K (.ref C_NoWord) (.ref C_NotLone) = some false
  k_NoWord_TooLong : PySem.W.kitOne K (.ref C_NoWord) (.ref C_TooLong) = some false
  k_NoWord_Twice : PySem.W.kitOne K (.ref C_NoWord) (.ref C_Twice) = some false
  k_NoWord_ValueError : PySem.W.kitOne K (.ref C_NoWord) (.type "ValueError") = some true
  k_NoYard_MeetError : PySem.W.kitOne K (.ref C_NoYard) (.ref C_MeetError) = some true
  k_NoYard_NoCut : PySem.W.kitOne K (.ref C_NoYard) (.ref C_NoCut) = some false
  k_NoYard_NoDeed : PySem.W.kitOne K (.ref C_NoYard) (.ref C_NoDeed) = some false
  k_NoYard_NoDrawing : PySem.W.kitOne K (.ref C_NoYard) (.ref C_NoDrawing) = some false
  k_NoYard_NoName : PySem.W.kitOne K (.ref C_NoYard) (.ref C_NoName) = some false
  k_NoYard_NoPaper : PySem.W.kitOne K (.ref C_NoYard) (.ref C_NoPaper) = some false
  k_NoYard_NoRow : PySem.W.kitOne K (.ref C_NoYard) (.ref C_NoRow) = some false
  k_NoYard_NoText : PySem.W.kitOne K (.ref C_NoYard) (.ref C_NoText) = some false
  k_NoYard_NoWord : PySem.W.kitOne K (.ref C_NoYard) (.ref C_NoWord) = some false
  k_NoYard_NotApart : PySem.W.kitOne K (.ref C_NoYard) (.ref C_NotApart) = some false
  k_NoYard_NotLone : PySem.W.kitOne K (.ref C_NoYard) (.ref C_NotLone) = some false
  k_NoYard_TooLong : PySem.W.kitOne K (.ref C_NoYard) (.ref C_TooLong) = some false
  k_NoYard_Twice : PySem.W.kitOne K (.ref C_NoYard) (.ref C_Twice) = some false
  k_NoYard_ValueError : PySem.W.kitOne K (.ref C_NoYard) (.type "ValueError") = some true
  k_NotApart_MeetError : PySem.W.kitOne K (.ref C_NotApart) (.ref C_MeetError) = some true
  k_NotApart_NoCut : PySem.W.kitOne K (.ref C_NotApart) (.ref C_NoCut) = some false
  k_NotApart_NoDeed : PySem.W.kitOne K (.ref C_NotApart) (.ref C_NoDeed) = some false
  k_NotApart_NoDrawing : PySem.W.kitOne K (.ref C_NotApart) (.ref C_NoDrawing) = some false
  k_NotApart_NoName : PySem.W.kitOne K (.ref C_NotApart) (.ref C_NoName) = some false
  k_NotApart_NoPaper : PySem.W.kitOne K (.ref C_NotApart) (.ref C_NoPaper) = some false
  k_NotApart_NoRow : PySem.W.kitOne K (.ref C_NotApart) (.ref C_NoRow) = some false
  k_NotApart_NoText : PySem.W.kitOne K (.ref C_NotApart) (.ref C_NoText) = some false
  k_NotApart_NoWord : PySem.W.kitOne K (.ref C_NotApart) (.ref C_NoWord) = some false
  k_NotApart_NoYard : PySem.W.kitOne K (.ref C_NotApart) (.ref C_NoYard) = some false
  k_NotApart_NotLone : PySem.W.kitOne K (.ref C_NotApart) (.ref C_NotLone) = some false
  k_NotApart_TooLong : PySem.W.kitOne K (.ref C_NotApart) (.ref C_TooLong) = some false
  k_NotApart_Twice : PySem.W.kitOne K (.ref C_NotApart) (.ref C_Twice) = some false
  k_NotApart_ValueError : PySem.W.kitOne K (.ref C_NotApart) (.type "ValueError") = some true
  k_NotLone_MeetError : PySem.W.kitOne K (.ref C_NotLone) (.ref C_MeetError) = some true
  k_NotLone_NoCut : PySem.W.kitOne K (.ref C_NotLone) (.ref C_NoCut) = some false
  k_NotLone_NoDeed : PySem.W.kitOne K (.ref C_NotLone) (.ref C_NoDeed) = some false
  k_NotLone_NoDrawing : PySem.W.kitOne K (.ref C_NotLone) (.ref C_NoDrawing) = some false
  k_NotLone_NoName : PySem.W.kitOne K (.ref C_NotLone) (.ref C_NoName) = some false
  k_NotLone_NoPaper : PySem.W.kitOne K (.ref C_NotLone) (.ref C_NoPaper) = some false
  k_NotLone_NoRow : PySem.W.kitOne K (.ref C_NotLone) (.ref C_NoRow) = some false
  k_NotLone_NoText : PySem.W.kitOne K (.ref C_NotLone) (.ref C_NoText) = some false
  k_NotLone_NoWord : PySem.W.kitOne K (.ref C_NotLone) (.ref C_NoWord) = some false
  k_NotLone_NoYard : PySem.W.kitOne K (.ref C_NotLone) (.ref C_NoYard) = some false
  k_NotLone_NotApart : PySem.W.kitOne K (.ref C_NotLone) (.ref C_NotApart) = some false
  k_NotLone_TooLong : PySem.W.kitOne K (.ref C_NotLone) (.ref C_TooLong) = some false
  k_NotLone_Twice : PySem.W.kitOne K (.ref C_NotLone) (.ref C_Twice) = some false
  k_NotLone_ValueError : PySem.W.kitOne K (.ref C_NotLone) (.type "ValueError") = some true
  k_TooLong_MeetError : PySem.W.kitOne K (.ref C_TooLong) (.ref C_MeetError) = some true
  k_TooLong_NoCut : PySem.W.kitOne K (.ref C_TooLong) (.ref C_NoCut) = some false
  k_TooLong_NoDeed : PySem.W.kitOne K (.ref C_TooLong) (.ref C_NoDeed) = some false
  k_TooLong_NoDrawing : PySem.W.kitOne K (.ref C_TooLong) (.ref C_NoDrawing) = some false
  k_TooLong_NoName : PySem.W.kitOne K (.ref C_TooLong) (.ref C_NoName) = some false
  k_TooLong_NoPaper : PySem.W.kitOne K (.ref C_TooLong) (.ref C_NoPaper) = some false
  k_TooLong_NoRow : PySem.W.kitOne K (.ref C_TooLong) (.ref C_NoRow) = some false
  k_TooLong_NoText : PySem.W.kitOne K (.ref C_TooLong) (.ref C_NoText) = some false
  k_TooLong_NoWord : PySem.W.kitOne K (.ref C_TooLong) (.ref C_NoWord) = some false
  k_TooLong_NoYard : PySem.W.kitOne K (.ref C_TooLong) (.ref C_NoYard) = some false
  k_TooLong_NotApart : PySem.W.kitOne K (.ref C_TooLong) (.ref C_NotApart) = some false
  k_TooLong_NotLone : PySem.W.kitOne K (.ref C_TooLong) (.ref C_NotLone) = some false
  k_TooLong_Twice : PySem.W.kitOne K (.ref C_TooLong) (.ref C_Twice) = some false
  k_TooLong_ValueError : PySem.W.kitOne K (.ref C_TooLong) (.type "ValueError") = some true
  k_Twice_MeetError : PySem.W.kitOne K (.ref C_Twice) (.ref C_MeetError) = some true
  k_Twice_NoCut : PySem.W.kitOne K (.ref C_Twice) (.ref C_NoCut) = some false
  k_Twice_NoDeed : PySem.W.kitOne K (.ref C_Twice) (.ref C_NoDeed) = some false
  k_Twice_NoDrawing : PySem.W.kitOne K (.ref C_Twice) (.ref C_NoDrawing) = some false
  k_Twice_NoName : PySem.W.kitOne K (.ref C_Twice) (.ref C_NoName) = some false
  k_Twice_NoPaper : PySem.W.kitOne K (.ref C_Twice) (.ref C_NoPaper) = some false
  k_Twice_NoRow : PySem.W.kitOne K (.ref C_Twice) (.ref C_NoRow) = some false
  k_Twice_NoText : PySem.W.kitOne K (.ref C_Twice) (.ref C_NoText) = some false
  k_Twice_NoWord : PySem.W.kitOne K (.ref C_Twice) (.ref C_NoWord) = some false
  k_Twice_NoYard : PySem.W.kitOne K (.ref C_Twice) (.ref C_NoYard) = some false
  k_Twice_NotApart : PySem.W.kitOne K (.ref C_Twice) (.ref C_NotApart) = some false
  k_Twice_NotLone : PySem.W.kitOne K (.ref C_Twice) (.ref C_NotLone) = some false
  k_Twice_TooLong : PySem.W.kitOne K (.ref C_Twice) (.ref C_TooLong) = some false
  k_Twice_ValueError : PySem.W.kitOne K (.ref C_Twice) (.type "ValueError") = some true
  n_ValueError : mg "ValueError" = none
  n_enumerate : mg "enumerate" = none
  n_int : mg "int" = none
  n_isinstance : mg "isinstance" = none
  n_len : mg "len" = none
  n_range : mg "range" = none
  n_repr : mg "repr" = none
section
variable {P : Program} {w : World} {K : PySem.W.Frag} {mg : Str → Option Value} {base : Heap} (T : Tx K mg)
abbrev clsT : Nat → Addr
  | 0 => T.C_NoYard
  | 1 => T.C_NoWord
  | 2 => T.C_NoDrawing
  | 3 => T.C_NoText
  | 4 => T.C_NoDeed
  | 5 => T.C_NoPaper
  | 6 => T.C_Twice
  | 7 => T.C_NoName
  | 8 => T.C_TooLong
  | 9 => T.C_NoCut
  | 10 => T.C_NotApart
  | 11 => T.C_NotLone
  | 12 => T.C_NoRow
  | _ => 0
theorem scI_NoYard : FnScope ["self", "at"] ["self", "at"] (defScope s_NoYard) := ⟨rfl, rfl, rfl, by decide +kernel, rfl, by decide +kernel, by decide +kernel⟩
theorem okI_NoYard : FnOk P w K mg base CX0 1 T.i_NoYard T.fi_NoYard ["self", "at"] (spI T.C_NoYard ["at"]) := Fun.ok T.if_NoYard scI_NoYard (fun vs H Q E h => spI_len h rfl) (fun cdv A outer s H vs Q E hr h => ⟨_, pss_cons (ps_expr (pe_meinit rfl T.g_MeetError T.br T.bs T.bv (pa_cons (pv 0) (pa_cons (pv 1) (pa_nil))))) (pss_one (ps_ost (pv 0) (pv 1))), init1 T.o_NoYard T.a_NoYard_at vs H Q E h⟩)
theorem scI_NoWord : FnScope ["self", "at"] ["self", "at"] (defScope s_NoWord) := ⟨rfl, rfl, rfl, by decide +kernel, rfl, by decide +kernel, by decide +kernel⟩
theorem okI_NoWord : FnOk P w K mg base CX0 1 T.i_NoWord T.fi_NoWord ["self", "at"] (spI T.C_NoWord ["at"]) := Fun.ok T.if_NoWord scI_NoWord (fun vs H Q E h => spI_len h rfl) (fun cdv A outer s H vs Q E hr h => ⟨_, pss_cons (ps_expr (pe_meinit rfl T.g_MeetError T.br T.bs T.bv (pa_cons (pv 0) (pa_cons (pv 1) (pa_nil))))) (pss_one (ps_ost (pv 0) (pv 1))), init1 T.o_NoWord T.a_NoWord_at vs H Q E h⟩)
theorem scI_NoDrawing : FnScope ["self", "word", "at"] ["self", "word", "at"] (defScope s_NoDrawing) := ⟨rfl, rfl, rfl, by decide +kernel, rfl, by decide +kernel, by decide +kernel⟩
theorem okI_NoDrawing : FnOk P w K mg base CX0 1 T.i_NoDrawing T.fi_NoDrawing ["self", "word", "at"] (spI T.C_NoDrawing ["word", "at"]) := Fun.ok T.if_NoDrawing scI_NoDrawing (fun vs H Q E h => spI_len h rfl) (fun cdv A outer s H vs Q E hr h => ⟨_, pss_cons (ps_expr (pe_meinit rfl T.g_MeetError T.br T.bs T.bv (pa_cons (pv 0) (pa_cons (pv 1) (pa_cons (pv 2) (pa_nil)))))) (pss_cons (ps_ost (pv 0) (pv 1)) (pss_one (ps_ost (pv 0) (pv 2)))), init2 T.o_NoDrawing T.a_NoDrawing_word T.a_NoDrawing_at vs H Q E h⟩)
theorem scI_NoText : FnScope ["self", "row"] ["self", "row"] (defScope s_NoText) := ⟨rfl, rfl, rfl, by decide +kernel, rfl, by decide +kernel, by decide +kernel⟩
theorem okI_NoText : FnOk P w K mg base CX0 1 T.i_NoText T.fi_NoText ["self", "row"] (spI T.C_NoText ["row"]) := Fun.ok T.if_NoText scI_NoText (fun vs H Q E h => spI_len h rfl) (fun cdv A outer s H vs Q E hr h => ⟨_, pss_cons (ps_expr (pe_meinit rfl T.g_MeetError T.br T.bs T.bv (pa_cons (pv 0) (pa_cons (pv 1) (pa_nil))))) (pss_one (ps_ost (pv 0) (pv 1))), init1 T.o_NoText T.a_NoText_row vs H Q E h⟩)
theorem scI_NoDeed : FnScope ["self", "at"] ["self", "at"] (defScope s_NoDeed) := ⟨rfl, rfl, rfl, by decide +kernel, rfl, by decide +kernel, by decide +kernel⟩
theorem okI_NoDeed : FnOk P w K mg base CX0 1 T.i_NoDeed T.fi_NoDeed ["self", "at"] (spI T.C_NoDeed ["at"]) := Fun.ok T.if_NoDeed scI_NoDeed (fun vs H Q E h => spI_len h rfl) (fun cdv A outer s H vs Q E hr h => ⟨_, pss_cons (ps_expr (pe_meinit rfl T.g_MeetError T.br T.bs T.bv (pa_cons (pv 0) (pa_cons (pv 1) (pa_nil))))) (pss_one (ps_ost (pv 0) (pv 1))), init1 T.o_NoDeed T.a_NoDeed_at vs H Q E h⟩)
theorem scI_NoPaper : FnScope ["self", "word"] ["self", "word"] (defScope s_NoPaper) := ⟨rfl, rfl, rfl, by decide +kernel, rfl, by decide +kernel, by decide +kernel⟩
theorem okI_NoPaper : FnOk P w K mg base CX0 1 T.i_NoPaper T.fi_NoPaper ["self", "word"] (spI T.C_NoPaper ["word"]) := Fun.ok T.if_NoPaper scI_NoPaper (fun vs H Q E h => spI_len h rfl) (fun cdv A outer s H vs Q E hr h => ⟨_, pss_cons (ps_expr (pe_meinit rfl T.g_MeetError T.br T.bs T.bv (pa_cons (pv 0) (pa_cons (pv 1) (pa_nil))))) (pss_one (ps_ost (pv 0) (pv 1))), init1 T.o_NoPaper T.a_NoPaper_word vs H Q E h⟩)
theorem scI_Twice : FnScope ["self", "name"] ["self", "name"] (defScope s_Twice) := ⟨rfl, rfl, rfl, by decide +kernel, rfl, by decide +kernel, by decide +kernel⟩
theorem okI_Twice : FnOk P w K mg base CX0 1 T.i_Twice T.fi_Twice ["self", "name"] (spI T.C_Twice ["name"]) := Fun.ok T.if_Twice scI_Twice (fun vs H Q E h => spI_len h rfl) (fun cdv A outer s H vs Q E hr h => ⟨_, pss_cons (ps_expr (pe_meinit rfl T.g_MeetError T.br T.bs T.bv (pa_cons (pv 0) (pa_cons (pv 1) (pa_nil))))) (pss_one (ps_ost (pv 0) (pv 1))), init1 T.o_Twice T.a_Twice_name vs H Q E h⟩)
theorem scI_NoName : FnScope ["self", "name"] ["self", "name"] (defScope s_NoName) := ⟨rfl, rfl, rfl, by decide +kernel, rfl, by decide +kernel, by decide +kernel⟩
theorem okI_NoName : FnOk P w K mg base CX0 1 T.i_NoName T.fi_NoName ["self", "name"] (spI T.C_NoName ["name"]) := Fun.ok T.if_NoName scI_NoName (fun vs H Q E h => spI_len h rfl) (fun cdv A outer s H vs Q E hr h => ⟨_, pss_cons (ps_expr (pe_meinit rfl T.g_MeetError T.br T.bs T.bv (pa_cons (pv 0) (pa_cons (pv 1) (pa_nil))))) (pss_one (ps_ost (pv 0) (pv 1))), init1 T.o_NoName T.a_NoName_name vs H Q E h⟩)
theorem scI_TooLong : FnScope ["self", "name"] ["self", "name"] (defScope s_TooLong) := ⟨rfl, rfl, rfl, by decide +kernel, rfl, by decide +kernel, by decide +kernel⟩
theorem okI_TooLong : FnOk P w K mg base CX0 1 T.i_TooLong T.fi_TooLong ["self", "name"] (spI T.C_TooLong ["name"]) := Fun.ok T.if_TooLong scI_TooLong (fun vs H Q E h => spI_len h rfl) (fun cdv A outer s H vs Q E hr h => ⟨_, pss_cons (ps_expr (pe_meinit rfl T.g_MeetError T.br T.bs T.bv (pa_cons (pv 0) (pa_cons (pv 1) (pa_nil))))) (pss_one (ps_ost (pv 0) (pv 1))), init1 T.o_TooLong T.a_TooLong_name vs H Q E h⟩)
theorem w_law_box : VSs (fam0 P w K mg base N_law_box "_law_box" (defScope s_law_box) T.f_law_box 0 (clsT T) flds1) (defBody s_law_box) t_law_box :=
  vss_cons (vs_set (i := 2) (fun _ => sc_law_box.nd) (ve_add (ve_mul (ve_int) (ve_name 1)) (ve_int))) (vss_cons (vs_if (vt_lt (ve_name 1) (ve_len (fun _ => T.n_len) (vr_cons (ve_name 0) (vr_nil)))) (vss_one (vs_set (i := 2) (fun _ => sc_law_box.nd) (ve_ix (ve_name 0) (ve_name 1)))) (vss_one (vs_if (vt_gt (ve_len (fun _ => T.n_len) (vr_cons (ve_name 0) (vr_nil))) (ve_int)) (vss_one (vs_set (i := 2) (fun _ => sc_law_box.nd) (ve_add (ve_name 2) (ve_mul (ve_mod (ve_ix (ve_name 0) (ve_mod (ve_name 1) (ve_len (fun _ => T.n_len) (vr_cons (ve_name 0) (vr_nil))))) (ve_int)) (ve_int))))) (vss_nil)))) (vss_cons (vs_set (i := 3) (fun _ => sc_law_box.nd) (ve_mod (ve_pow (ve_add (ve_add (ve_mod (ve_name 2) (ve_int)) (ve_mul (ve_int) (ve_name 1))) (ve_int)) (ve_int)) (ve_int))) (vss_one (vs_ret (ve_lst (va_cons (ve_ix (ve_lst (va_cons (ve_int) (va_cons (ve_name 2) (va_nil)))) (ve_int1 (fun _ => T.n_int) (vr_cons (ve_ge (ve_name 2) (ve_pow (ve_int) (ve_int))) (vr_nil)))) (va_cons (ve_add (ve_mod (ve_name 3) (ve_int)) (ve_int)) (va_nil))))))))
theorem ok_law_box0 : FnG P w K mg base CX0 1 T.f_law_box T.fd_law_box ["_law_script", "_law_k"] (sp0 K (clsT T) flds1 mb_law_box) := fn0 T.d_law_box.fn sc_law_box (w_law_box T) len_law_box p_law_box
theorem ok_law_box : FnG P w K mg base CX0 1 T.f_law_box T.fd_law_box ["_law_script", "_law_k"] (sp0 K (clsT T) flds1 m_law_box) := Pu.FnG.imp0 (Pu.FnG.boxed (ok_law_box0 T)) box_law_box
theorem w_law_take : VSs (fam0 P w K mg base N_law_take "_law_take" (defScope s_law_take) T.f_law_take 0 (clsT T) flds1) (defBody s_law_take) t_law_take :=
  vss_cons (vs_if (vt_gt (ve_ix (ve_name 0) (ve_int)) (ve_int)) (vss_cons (vs_set (i := 3) (fun _ => sc_law_take.nd) (ve_mod (ve_ix (ve_name 0) (ve_int)) (ve_name 1))) (vss_cons (vs_setIx (ve_fdiv (ve_ix (ve_name 0) (ve_int)) (ve_name 1)) (ve_name 0) (ve_int)) (vss_one (vs_ret (ve_name 3))))) (vss_nil)) (vss_cons (vs_set (i := 2) (fun _ => sc_law_take.nd) (ve_mod (ve_mul (ve_ix (ve_name 0) (ve_int)) (ve_int)) (ve_int))) (vss_cons (vs_setIx (ve_add (ve_mod (ve_add (ve_mul (ve_name 2) (ve_int)) (ve_int)) (ve_int)) (ve_int)) (ve_name 0) (ve_int)) (vss_one (vs_ret (ve_mod (ve_fdiv (ve_add (ve_mul (ve_name 2) (ve_int)) (ve_ix (ve_name 0) (ve_int))) (ve_int)) (ve_name 1))))))
theorem ok_law_take : FnG P w K mg base CX0 1 T.f_law_take T.fd_law_take ["_law_box_here", "_law_many"] (sp0 K (clsT T) flds1 m_law_take) := fn0 T.d_law_take.fn sc_law_take (w_law_take T) len_law_take p_law_take
theorem w_law_made : VSs (fam0 P w K mg base N_law_made "_law_made" (defScope s_law_made) T.f_law_made 2 (clsT T) flds1) (defBody s_law_made) t_law_made :=
  vss_cons (vs_set (i := 2) (fun _ => sc_law_made.nd) (ve_lst (va_cons (ve_mkX (c := 0) T.o_NoYard T.ii_NoYard T.it_NoYard (fun _ => okI_NoYard T) (fun p => p.hr.mono (by decide)) T.ib_NoYard (fun _ => T.g_NoYard) (by decide) (List.cons_ne_nil _ _) (va_cons (ve_name 0) (va_nil))) (va_cons (ve_mkX (c := 1) T.o_NoWord T.ii_NoWord T.it_NoWord (fun _ => okI_NoWord T) (fun p => p.hr.mono (by decide)) T.ib_NoWord (fun _ => T.g_NoWord) (by decide) (List.cons_ne_nil _ _) (va_cons (ve_name 0) (va_nil))) (va_cons (ve_mkX (c := 2) T.o_NoDrawing T.ii_NoDrawing T.it_NoDrawing (fun _ => okI_NoDrawing T) (fun p => p.hr.mono (by decide)) T.ib_NoDrawing (fun _ => T.g_NoDrawing) (by decide) (List.cons_ne_nil _ _) (va_cons (ve_name 1) (va_cons (ve_name 0) (va_nil)))) (va_cons (ve_mkX (c := 3) T.o_NoText T.ii_NoText T.it_NoText (fun _ => okI_NoText T) (fun p => p.hr.mono (by decide)) T.ib_NoText (fun _ => T.g_NoText) (by decide) (List.cons_ne_nil _ _) (va_cons (ve_name 0) (va_nil))) (va_cons (ve_mkX (c := 4) T.o_NoDeed T.ii_NoDeed T.it_NoDeed (fun _ => okI_NoDeed T) (fun p => p.hr.mono (by decide)) T.ib_NoDeed (fun _ => T.g_NoDeed) (by decide) (List.cons_ne_nil _ _) (va_cons (ve_name 0) (va_nil))) (va_cons (ve_mkX (c := 5) T.o_NoPaper T.ii_NoPaper T.it_NoPaper (fun _ => okI_NoPaper T) (fun p => p.hr.mono (by decide)) T.ib_NoPaper (fun _ => T.g_NoPaper) (by decide) (List.cons_ne_nil _ _) (va_cons (ve_name 1) (va_nil))) (va_nil))))))))) (vss_cons (vs_set (i := 2) (fun _ => sc_law_made.nd) (ve_add (ve_name 2) (ve_lst (va_cons (ve_mkX (c := 6) T.o_Twice T.ii_Twice T.it_Twice (fun _ => okI_Twice T) (fun p => p.hr.mono (by decide)) T.ib_Twice (fun _ => T.g_Twice) (by decide) (List.cons_ne_nil _ _) (va_cons (ve_name 1) (va_nil))) (va_cons (ve_mkX (c := 7) T.o_NoName T.ii_NoName T.it_NoName (fun _ => okI_NoName T) (fun p => p.hr.mono (by decide)) T.ib_NoName (fun _ => T.g_NoName) (by decide) (List.cons_ne_nil _ _) (va_cons (ve_name 1) (va_nil))) (va_cons (ve_mkX (c := 8) T.o_TooLong T.ii_TooLong T.it_TooLong (fun _ => okI_TooLong T) (fun p => p.hr.mono (by decide)) T.ib_TooLong (fun _ => T.g_TooLong) (by decide) (List.cons_ne_nil _ _) (va_cons (ve_name 1) (va_nil))) (va_cons (ve_mk0 (c := 9) T.q_NoCut T.kc_NoCut (fun _ => T.g_NoCut)) (va_cons (ve_mk0 (c := 10) T.q_NotApart T.kc_NotApart (fun _ => T.g_NotApart)) (va_cons (ve_mk0 (c := 11) T.q_NotLone T.kc_NotLone (fun _ => T.g_NotLone)) (va_cons (ve_mk0 (c := 12) T.q_NoRow T.kc_NoRow (fun _ => T.g_NoRow)) (va_nil))))))))))) (vss_one (vs_ret (ve_name 2))))
theorem ok_law_made : FnG P w K mg base CX0 3 T.f_law_made T.fd_law_made ["_law_number", "_law_word"] (sp0 K (clsT T) flds1 m_law_made) := fn0 T.d_law_made.fn sc_law_made (w_law_made T) len_law_made p_law_made
theorem w_law_kinds : VSs (fam0 P w K mg base N_law_kinds "_law_kinds" (defScope s_law_kinds) T.f_law_kinds 0 (clsT T) flds1) (defBody s_law_kinds) t_law_kinds :=
  vss_cons (vs_set (i := 1) (fun _ => sc_law_kinds.nd) (ve_lst (va_cons (ve_isx (fun _ => T.n_isinstance) (fun _ => .inl ⟨_, rfl, rfl, T.g_NoYard⟩) (tbl_cons ⟨T.e_NoYard, kitOne_self⟩ (tbl_cons ⟨T.e_NoWord, T.k_NoWord_NoYard⟩ (tbl_cons ⟨T.e_NoDrawing, T.k_NoDrawing_NoYard⟩ (tbl_cons ⟨T.e_NoText, T.k_NoText_NoYard⟩ (tbl_cons ⟨T.e_NoDeed, T.k_NoDeed_NoYard⟩ (tbl_cons ⟨T.e_NoPaper, T.k_NoPaper_NoYard⟩ (tbl_cons ⟨T.e_Twice, T.k_Twice_NoYard⟩ (tbl_cons ⟨T.e_NoName, T.k_NoName_NoYard⟩ (tbl_cons ⟨T.e_TooLong, T.k_TooLong_NoYard⟩ (tbl_cons ⟨T.e_NoCut, T.k_NoCut_NoYard⟩ (tbl_cons ⟨T.e_NotApart, T.k_NotApart_NoYard⟩ (tbl_cons ⟨T.e_NotLone, T.k_NotLone_NoYard⟩ (tbl_cons ⟨T.e_NoRow, T.k_NoRow_NoYard⟩ (tbl_nil)))))))))))))) (ve_name 0)) (va_cons (ve_isx (fun _ => T.n_isinstance) (fun _ => .inl ⟨_, rfl, rfl, T.g_NoWord⟩) (tbl_cons ⟨T.e_NoYard, T.k_NoYard_NoWord⟩ (tbl_cons ⟨T.e_NoWord, kitOne_self⟩ (tbl_cons ⟨T.e_NoDrawing, T.k_NoDrawing_NoWord⟩ (tbl_cons ⟨T.e_NoText, T.k_NoText_NoWord⟩ (tbl_cons ⟨T.e_NoDeed, T.k_NoDeed_NoWord⟩ (tbl_cons ⟨T.e_NoPaper, T.k_NoPaper_NoWord⟩ (tbl_cons ⟨T.e_Twice, T.k_Twice_NoWord⟩ (tbl_cons ⟨T.e_NoName, T.k_NoName_NoWord⟩ (tbl_cons ⟨T.e_TooLong, T.k_TooLong_NoWord⟩ (tbl_cons ⟨T.e_NoCut, T.k_NoCut_NoWord⟩ (tbl_cons ⟨T.e_NotApart, T.k_NotApart_NoWord⟩ (tbl_cons ⟨T.e_NotLone, T.k_NotLone_NoWord⟩ (tbl_cons ⟨T.e_NoRow, T.k_NoRow_NoWord⟩ (tbl_nil)))))))))))))) (ve_name 0)) (va_cons (ve_isx (fun _ => T.n_isinstance) (fun _ => .inl ⟨_, rfl, rfl, T.g_NoDrawing⟩) (tbl_cons ⟨T.e_NoYard, T.k_NoYard_NoDrawing⟩ (tbl_cons ⟨T.e_NoWord, T.k_NoWord_NoDrawing⟩ (tbl_cons ⟨T.e_NoDrawing, kitOne_self⟩ (tbl_cons ⟨T.e_NoText, T.k_NoText_NoDrawing⟩ (tbl_cons ⟨T.e_NoDeed, T.k_NoDeed_NoDrawing⟩ (tbl_cons ⟨T.e_NoPaper, T.k_NoPaper_NoDrawing⟩ (tbl_cons ⟨T.e_Twice, T.k_Twice_NoDrawing⟩ (tbl_cons ⟨T.e_NoName, T.k_NoName_NoDrawing⟩ (tbl_cons ⟨T.e_TooLong, T.k_TooLong_NoDrawing⟩ (tbl_cons ⟨T.e_NoCut, T.k_NoCut_NoDrawing⟩ (tbl_cons ⟨T.e_NotApart, T.k_NotApart_NoDrawing⟩ (tbl_cons ⟨T.e_NotLone, T.k_NotLone_NoDrawing⟩ (tbl_cons ⟨T.e_NoRow, T.k_NoRow_NoDrawing⟩ (tbl_nil)))))))))))))) (ve_name 0)) (va_cons (ve_isx (fun _ => T.n_isinstance) (fun _ => .inl ⟨_, rfl, rfl, T.g_NoText⟩) (tbl_cons ⟨T.e_NoYard, T.k_NoYard_NoText⟩ (tbl_cons ⟨T.e_NoWord, T.k_NoWord_NoText⟩ (tbl_cons ⟨T.e_NoDrawing, T.k_NoDrawing_NoText⟩ (tbl_cons ⟨T.e_NoText, kitOne_self⟩ (tbl_cons ⟨T.e_NoDeed, T.k_NoDeed_NoText⟩ (tbl_cons ⟨T.e_NoPaper, T.k_NoPaper_NoText⟩ (tbl_cons ⟨T.e_Twice, T.k_Twice_NoText⟩ (tbl_cons ⟨T.e_NoName, T.k_NoName_NoText⟩ (tbl_cons ⟨T.e_TooLong, T.k_TooLong_NoText⟩ (tbl_cons ⟨T.e_NoCut, T.k_NoCut_NoText⟩ (tbl_cons ⟨T.e_NotApart, T.k_NotApart_NoText⟩ (tbl_cons ⟨T.e_NotLone, T.k_NotLone_NoText⟩ (tbl_cons ⟨T.e_NoRow, T.k_NoRow_NoText⟩ (tbl_nil)))))))))))))) (ve_name 0)) (va_nil))))))) (vss_cons (vs_set (i := 1) (fun _ => sc_law_kinds.nd) (ve_add (ve_name 1) (ve_lst (va_cons (ve_isx (fun _ => T.n_isinstance) (fun _ => .inl ⟨_, rfl, rfl, T.g_NoDeed⟩) (tbl_cons ⟨T.e_NoYard, T.k_NoYard_NoDeed⟩ (tbl_cons ⟨T.e_NoWord, T.k_NoWord_NoDeed⟩ (tbl_cons ⟨T.e_NoDrawing, T.k_NoDrawing_NoDeed⟩ (tbl_cons ⟨T.e_NoText, T.k_NoText_NoDeed⟩ (tbl_cons ⟨T.e_NoDeed, kitOne_self⟩ (tbl_cons ⟨T.e_NoPaper, T.k_NoPaper_NoDeed⟩ (tbl_cons ⟨T.e_Twice, T.k_Twice_NoDeed⟩ (tbl_cons ⟨T.e_NoName, T.k_NoName_NoDeed⟩ (tbl_cons ⟨T.e_TooLong, T.k_TooLong_NoDeed⟩ (tbl_cons ⟨T.e_NoCut, T.k_NoCut_NoDeed⟩ (tbl_cons ⟨T.e_NotApart, T.k_NotApart_NoDeed⟩ (tbl_cons ⟨T.e_NotLone, T.k_NotLone_NoDeed⟩ (tbl_cons ⟨T.e_NoRow, T.k_NoRow_NoDeed⟩ (tbl_nil)))))))))))))) (ve_name 0)) (va_cons (ve_isx (fun _ => T.n_isinstance) (fun _ => .inl ⟨_, rfl, rfl, T.g_NoPaper⟩) (tbl_cons ⟨T.e_NoYard, T.k_NoYard_NoPaper⟩ (tbl_cons ⟨T.e_NoWord, T.k_NoWord_NoPaper⟩ (tbl_cons ⟨T.e_NoDrawing, T.k_NoDrawing_NoPaper⟩ (tbl_cons ⟨T.e_NoText, T.k_NoText_NoPaper⟩ (tbl_cons ⟨T.e_NoDeed, T.k_NoDeed_NoPaper⟩ (tbl_cons ⟨T.e_NoPaper, kitOne_self⟩ (tbl_cons ⟨T.e_Twice, T.k_Twice_NoPaper⟩ (tbl_cons ⟨T.e_NoName, T.k_NoName_NoPaper⟩ (tbl_cons ⟨T.e_TooLong, T.k_TooLong_NoPaper⟩ (tbl_cons ⟨T.e_NoCut, T.k_NoCut_NoPaper⟩ (tbl_cons ⟨T.e_NotApart, T.k_NotApart_NoPaper⟩ (tbl_cons ⟨T.e_NotLone, T.k_NotLone_NoPaper⟩ (tbl_cons ⟨T.e_NoRow, T.k_NoRow_NoPaper⟩ (tbl_nil)))))))))))))) (ve_name 0)) (va_cons (ve_isx (fun _ => T.n_isinstance) (fun _ => .inl ⟨_, rfl, rfl, T.g_Twice⟩) (tbl_cons ⟨T.e_NoYard, T.k_NoYard_Twice⟩ (tbl_cons ⟨T.e_NoWord, T.k_NoWord_Twice⟩ (tbl_cons ⟨T.e_NoDrawing, T.k_NoDrawing_Twice⟩ (tbl_cons ⟨T.e_NoText, T.k_NoText_Twice⟩ (tbl_cons ⟨T.e_NoDeed, T.k_NoDeed_Twice⟩ (tbl_cons ⟨T.e_NoPaper, T.k_NoPaper_Twice⟩ (tbl_cons ⟨T.e_Twice, kitOne_self⟩ (tbl_cons ⟨T.e_NoName, T.k_NoName_Twice⟩ (tbl_cons ⟨T.e_TooLong, T.k_TooLong_Twice⟩ (tbl_cons ⟨T.e_NoCut, T.k_NoCut_Twice⟩ (tbl_cons ⟨T.e_NotApart, T.k_NotApart_Twice⟩ (tbl_cons ⟨T.e_NotLone, T.k_NotLone_Twice⟩ (tbl_cons ⟨T.e_NoRow, T.k_NoRow_Twice⟩ (tbl_nil)))))))))))))) (ve_name 0)) (va_cons (ve_isx (fun _ => T.n_isinstance) (fun _ => .inl ⟨_, rfl, rfl, T.g_NoName⟩) (tbl_cons ⟨T.e_NoYard, T.k_NoYard_NoName⟩ (tbl_cons ⟨T.e_NoWord, T.k_NoWord_NoName⟩ (tbl_cons ⟨T.e_NoDrawing, T.k_NoDrawing_NoName⟩ (tbl_cons ⟨T.e_NoText, T.k_NoText_NoName⟩ (tbl_cons ⟨T.e_NoDeed, T.k_NoDeed_NoName⟩ (tbl_cons ⟨T.e_NoPaper, T.k_NoPaper_NoName⟩ (tbl_cons ⟨T.e_Twice, T.k_Twice_NoName⟩ (tbl_cons ⟨T.e_NoName, kitOne_self⟩ (tbl_cons ⟨T.e_TooLong, T.k_TooLong_NoName⟩ (tbl_cons ⟨T.e_NoCut, T.k_NoCut_NoName⟩ (tbl_cons ⟨T.e_NotApart, T.k_NotApart_NoName⟩ (tbl_cons ⟨T.e_NotLone, T.k_NotLone_NoName⟩ (tbl_cons ⟨T.e_NoRow, T.k_NoRow_NoName⟩ (tbl_nil)))))))))))))) (ve_name 0)) (va_nil)))))))) (vss_cons (vs_set (i := 1) (fun _ => sc_law_kinds.nd) (ve_add (ve_name 1) (ve_lst (va_cons (ve_isx (fun _ => T.n_isinstance) (fun _ => .inl ⟨_, rfl, rfl, T.g_TooLong⟩) (tbl_cons ⟨T.e_NoYard, T.k_NoYard_TooLong⟩ (tbl_cons ⟨T.e_NoWord, T.k_NoWord_TooLong⟩ (tbl_cons ⟨T.e_NoDrawing, T.k_NoDrawing_TooLong⟩ (tbl_cons ⟨T.e_NoText, T.k_NoText_TooLong⟩ (tbl_cons ⟨T.e_NoDeed, T.k_NoDeed_TooLong⟩ (tbl_cons ⟨T.e_NoPaper, T.k_NoPaper_TooLong⟩ (tbl_cons ⟨T.e_Twice, T.k_Twice_TooLong⟩ (tbl_cons ⟨T.e_NoName, T.k_NoName_TooLong⟩ (tbl_cons ⟨T.e_TooLong, kitOne_self⟩ (tbl_cons ⟨T.e_NoCut, T.k_NoCut_TooLong⟩ (tbl_cons ⟨T.e_NotApart, T.k_NotApart_TooLong⟩ (tbl_cons ⟨T.e_NotLone, T.k_NotLone_TooLong⟩ (tbl_cons ⟨T.e_NoRow, T.k_NoRow_TooLong⟩ (tbl_nil)))))))))))))) (ve_name 0)) (va_cons (ve_isx (fun _ => T.n_isinstance) (fun _ => .inl ⟨_, rfl, rfl, T.g_NoCut⟩) (tbl_cons ⟨T.e_NoYard, T.k_NoYard_NoCut⟩ (tbl_cons ⟨T.e_NoWord, T.k_NoWord_NoCut⟩ (tbl_cons ⟨T.e_NoDrawing, T.k_NoDrawing_NoCut⟩ (tbl_cons ⟨T.e_NoText, T.k_NoText_NoCut⟩ (tbl_cons ⟨T.e_NoDeed, T.k_NoDeed_NoCut⟩ (tbl_cons ⟨T.e_NoPaper, T.k_NoPaper_NoCut⟩ (tbl_cons ⟨T.e_Twice, T.k_Twice_NoCut⟩ (tbl_cons ⟨T.e_NoName, T.k_NoName_NoCut⟩ (tbl_cons ⟨T.e_TooLong, T.k_TooLong_NoCut⟩ (tbl_cons ⟨T.e_NoCut, kitOne_self⟩ (tbl_cons ⟨T.e_NotApart, T.k_NotApart_NoCut⟩ (tbl_cons ⟨T.e_NotLone, T.k_NotLone_NoCut⟩ (tbl_cons ⟨T.e_NoRow, T.k_NoRow_NoCut⟩ (tbl_nil)))))))))))))) (ve_name 0)) (va_cons (ve_isx (fun _ => T.n_isinstance) (fun _ => .inl ⟨_, rfl, rfl, T.g_NotApart⟩) (tbl_cons ⟨T.e_NoYard, T.k_NoYard_NotApart⟩ (tbl_cons ⟨T.e_NoWord, T.k_NoWord_NotApart⟩ (tbl_cons ⟨T.e_NoDrawing, T.k_NoDrawing_NotApart⟩ (tbl_cons ⟨T.e_NoText, T.k_NoText_NotApart⟩ (tbl_cons ⟨T.e_NoDeed, T.k_NoDeed_NotApart⟩ (tbl_cons ⟨T.e_NoPaper, T.k_NoPaper_NotApart⟩ (tbl_cons ⟨T.e_Twice, T.k_Twice_NotApart⟩ (tbl_cons ⟨T.e_NoName, T.k_NoName_NotApart⟩ (tbl_cons ⟨T.e_TooLong, T.k_TooLong_NotApart⟩ (tbl_cons ⟨T.e_NoCut, T.k_NoCut_NotApart⟩ (tbl_cons ⟨T.e_NotApart, kitOne_self⟩ (tbl_cons ⟨T.e_NotLone, T.k_NotLone_NotApart⟩ (tbl_cons ⟨T.e_NoRow, T.k_NoRow_NotApart⟩ (tbl_nil)))))))))))))) (ve_name 0)) (va_cons (ve_isx (fun _ => T.n_isinstance) (fun _ => .inl ⟨_, rfl, rfl, T.g_NotLone⟩) (tbl_cons ⟨T.e_NoYard, T.k_NoYard_NotLone⟩ (tbl_cons ⟨T.e_NoWord, T.k_NoWord_NotLone⟩ (tbl_cons ⟨T.e_NoDrawing, T.k_NoDrawing_NotLone⟩ (tbl_cons ⟨T.e_NoText, T.k_NoText_NotLone⟩ (tbl_cons ⟨T.e_NoDeed, T.k_NoDeed_NotLone⟩ (tbl_cons ⟨T.e_NoPaper, T.k_NoPaper_NotLone⟩ (tbl_cons ⟨T.e_Twice, T.k_Twice_NotLone⟩ (tbl_cons ⟨T.e_NoName, T.k_NoName_NotLone⟩ (tbl_cons ⟨T.e_TooLong, T.k_TooLong_NotLone⟩ (tbl_cons ⟨T.e_NoCut, T.k_NoCut_NotLone⟩ (tbl_cons ⟨T.e_NotApart, T.k_NotApart_NotLone⟩ (tbl_cons ⟨T.e_NotLone, kitOne_self⟩ (tbl_cons ⟨T.e_NoRow, T.k_NoRow_NotLone⟩ (tbl_nil)))))))))))))) (ve_name 0)) (va_nil)))))))) (vss_one (vs_ret (ve_add (ve_name 1) (ve_lst (va_cons (ve_isx (fun _ => T.n_isinstance) (fun _ => .inl ⟨_, rfl, rfl, T.g_NoRow⟩) (tbl_cons ⟨T.e_NoYard, T.k_NoYard_NoRow⟩ (tbl_cons ⟨T.e_NoWord, T.k_NoWord_NoRow⟩ (tbl_cons ⟨T.e_NoDrawing, T.k_NoDrawing_NoRow⟩ (tbl_cons ⟨T.e_NoText, T.k_NoText_NoRow⟩ (tbl_cons ⟨T.e_NoDeed, T.k_NoDeed_NoRow⟩ (tbl_cons ⟨T.e_NoPaper, T.k_NoPaper_NoRow⟩ (tbl_cons ⟨T.e_Twice, T.k_Twice_NoRow⟩ (tbl_cons ⟨T.e_NoName, T.k_NoName_NoRow⟩ (tbl_cons ⟨T.e_TooLong, T.k_TooLong_NoRow⟩ (tbl_cons ⟨T.e_NoCut, T.k_NoCut_NoRow⟩ (tbl_cons ⟨T.e_NotApart, T.k_NotApart_NoRow⟩ (tbl_cons ⟨T.e_NotLone, T.k_NotLone_NoRow⟩ (tbl_cons ⟨T.e_NoRow, kitOne_self⟩ (tbl_nil)))))))))))))) (ve_name 0)) (va_cons (ve_isx (fun _ => T.n_isinstance) (fun _ => .inl ⟨_, rfl, rfl, T.g_MeetError⟩) (tbl_cons ⟨T.e_NoYard, T.k_NoYard_MeetError⟩ (tbl_cons ⟨T.e_NoWord, T.k_NoWord_MeetError⟩ (tbl_cons ⟨T.e_NoDrawing, T.k_NoDrawing_MeetError⟩ (tbl_cons ⟨T.e_NoText, T.k_NoText_MeetError⟩ (tbl_cons ⟨T.e_NoDeed, T.k_NoDeed_MeetError⟩ (tbl_cons ⟨T.e_NoPaper, T.k_NoPaper_MeetError⟩ (tbl_cons ⟨T.e_Twice, T.k_Twice_MeetError⟩ (tbl_cons ⟨T.e_NoName, T.k_NoName_MeetError⟩ (tbl_cons ⟨T.e_TooLong, T.k_TooLong_MeetError⟩ (tbl_cons ⟨T.e_NoCut, T.k_NoCut_MeetError⟩ (tbl_cons ⟨T.e_NotApart, T.k_NotApart_MeetError⟩ (tbl_cons ⟨T.e_NotLone, T.k_NotLone_MeetError⟩ (tbl_cons ⟨T.e_NoRow, T.k_NoRow_MeetError⟩ (tbl_nil)))))))))))))) (ve_name 0)) (va_cons (ve_isx (fun _ => T.n_isinstance) (fun _ => .inr ⟨_, rfl, rfl, T.n_ValueError, by decide +kernel, by decide⟩) (tbl_cons ⟨T.e_NoYard, T.k_NoYard_ValueError⟩ (tbl_cons ⟨T.e_NoWord, T.k_NoWord_ValueError⟩ (tbl_cons ⟨T.e_NoDrawing, T.k_NoDrawing_ValueError⟩ (tbl_cons ⟨T.e_NoText, T.k_NoText_ValueError⟩ (tbl_cons ⟨T.e_NoDeed, T.k_NoDeed_ValueError⟩ (tbl_cons ⟨T.e_NoPaper, T.k_NoPaper_ValueError⟩ (tbl_cons ⟨T.e_Twice, T.k_Twice_ValueError⟩ (tbl_cons ⟨T.e_NoName, T.k_NoName_ValueError⟩ (tbl_cons ⟨T.e_TooLong, T.k_TooLong_ValueError⟩ (tbl_cons ⟨T.e_NoCut, T.k_NoCut_ValueError⟩ (tbl_cons ⟨T.e_NotApart, T.k_NotApart_ValueError⟩ (tbl_cons ⟨T.e_NotLone, T.k_NotLone_ValueError⟩ (tbl_cons ⟨T.e_NoRow, T.k_NoRow_ValueError⟩ (tbl_nil)))))))))))))) (ve_name 0)) (va_nil))))))))))
theorem ok_law_kinds : FnG P w K mg base CX0 1 T.f_law_kinds T.fd_law_kinds ["_law_e"] (sp0 K (clsT T) flds1 m_law_kinds) := fn0 T.d_law_kinds.fn sc_law_kinds (w_law_kinds T) len_law_kinds p_law_kinds
theorem w_law_caught : VSs (fam0 P w K mg base N_law_caught "_law_caught" (defScope s_law_caught) T.f_law_caught 2 (clsT T) flds1) (defBody s_law_caught) t_law_caught :=
  vss_cons (vs_set (i := 3) (fun _ => sc_law_caught.nd) (ve_non)) (vss_cons (vs_try (vss_cons (vs_if (vt_eq (hu_tr hu0) (ve_name 0) (ve_int)) (vss_one (vs_raise (c := 2) (fun _ => rfl) tk_tr T.o_NoDrawing T.ii_NoDrawing T.it_NoDrawing (fun _ => okI_NoDrawing T) (fun p => p.1.hr.mono (by decide)) T.ib_NoDrawing (fun _ => T.g_NoDrawing) rfl (by decide) (by decide) (va_cons (ve_name 2) (va_cons (ve_name 1) (va_nil))))) (vss_nil)) (vss_cons (vs_if (vt_eq (hu_tr hu0) (ve_name 0) (ve_int)) (vss_one (vs_raise (c := 8) (fun _ => rfl) tk_tr T.o_TooLong T.ii_TooLong T.it_TooLong (fun _ => okI_TooLong T) (fun p => p.1.hr.mono (by decide)) T.ib_TooLong (fun _ => T.g_TooLong) rfl (by decide) (by decide) (va_cons (ve_name 2) (va_nil)))) (vss_nil)) (vss_one (vs_raise0 (c := 11) (fun _ => rfl) tk_tr T.q_NotLone T.kc_NotLone T.e_NotLone.hs T.ty_NotLone (fun _ => T.g_NotLone) rfl)))) (vss_one (vs_set (i := 3) (fun _ => sc_law_caught.nd) (ve_name 4))) (fun _ => sc_law_caught.nd) (fun _ => T.g_MeetError) rfl (cbl_succ (T.x_NoYard_MeetError) (cbl_succ (T.x_NoWord_MeetError) (cbl_succ (T.x_NoDrawing_MeetError) (cbl_succ (T.x_NoText_MeetError) (cbl_succ (T.x_NoDeed_MeetError) (cbl_succ (T.x_NoPaper_MeetError) (cbl_succ (T.x_Twice_MeetError) (cbl_succ (T.x_NoName_MeetError) (cbl_succ (T.x_TooLong_MeetError) (cbl_succ (T.x_NoCut_MeetError) (cbl_succ (T.x_NotApart_MeetError) (cbl_succ (T.x_NotLone_MeetError) (cbl_succ (T.x_NoRow_MeetError) (cbl_zero))))))))))))))) (vss_one (vs_ret (ve_name 3))))
theorem ok_law_caught : FnG P w K mg base CX0 3 T.f_law_caught T.fd_law_caught ["_law_way", "_law_number", "_law_word"] (sp0 K (clsT T) flds1 m_law_caught) := fn0 T.d_law_caught.fn sc_law_caught (w_law_caught T) len_law_caught p_law_caught
theorem w_law_fields : VSs (fam0 P w K mg base N_law_fields "_law_fields" (defScope s_law_fields) T.f_law_fields 0 (clsT T) flds1) (defBody s_law_fields) t_law_fields :=
  vss_cons (vs_set (i := 1) (fun _ => sc_law_fields.nd) (ve_lst (va_cons (ve_xattr (ve_ix (ve_name 0) (ve_int)) (cbT_t ⟨T.e_NoYard, T.a_NoYard_at⟩ (cbT_t ⟨T.e_NoWord, T.a_NoWord_at⟩ (cbT_t ⟨T.e_NoDrawing, T.a_NoDrawing_at⟩ (cbT_f (cbT_t ⟨T.e_NoDeed, T.a_NoDeed_at⟩ (cbT_f (cbT_f (cbT_f (cbT_f (cbT_f (cbT_f (cbT_f (cbT_f (cbT_nil))))))))))))))) (va_cons (ve_xattr (ve_ix (ve_name 0) (ve_int)) (cbT_t ⟨T.e_NoYard, T.a_NoYard_at⟩ (cbT_t ⟨T.e_NoWord, T.a_NoWord_at⟩ (cbT_t ⟨T.e_NoDrawing, T.a_NoDrawing_at⟩ (cbT_f (cbT_t ⟨T.e_NoDeed, T.a_NoDeed_at⟩ (cbT_f (cbT_f (cbT_f (cbT_f (cbT_f (cbT_f (cbT_f (cbT_f (cbT_nil))))))))))))))) (va_cons (ve_xattr (ve_ix (ve_name 0) (ve_int)) (cbT_f (cbT_f (cbT_t ⟨T.e_NoDrawing, T.a_NoDrawing_word⟩ (cbT_f (cbT_f (cbT_t ⟨T.e_NoPaper, T.a_NoPaper_word⟩ (cbT_f (cbT_f (cbT_f (cbT_f (cbT_f (cbT_f (cbT_f (cbT_nil))))))))))))))) (va_cons (ve_xattr (ve_ix (ve_name 0) (ve_int)) (cbT_t ⟨T.e_NoYard, T.a_NoYard_at⟩ (cbT_t ⟨T.e_NoWord, T.a_NoWord_at⟩ (cbT_t ⟨T.e_NoDrawing, T.a_NoDrawing_at⟩ (cbT_f (cbT_t ⟨T.e_NoDeed, T.a_NoDeed_at⟩ (cbT_f (cbT_f (cbT_f (cbT_f (cbT_f (cbT_f (cbT_f (cbT_f (cbT_nil))))))))))))))) (va_cons (ve_xattr (ve_ix (ve_name 0) (ve_int)) (cbT_f (cbT_f (cbT_f (cbT_t ⟨T.e_NoText, T.a_NoText_row⟩ (cbT_f (cbT_f (cbT_f (cbT_f (cbT_f (cbT_f (cbT_f (cbT_f (cbT_f (cbT_nil))))))))))))))) (va_cons (ve_xattr (ve_ix (ve_name 0) (ve_int)) (cbT_t ⟨T.e_NoYard, T.a_NoYard_at⟩ (cbT_t ⟨T.e_NoWord, T.a_NoWord_at⟩ (cbT_t ⟨T.e_NoDrawing, T.a_NoDrawing_at⟩ (cbT_f (cbT_t ⟨T.e_NoDeed, T.a_NoDeed_at⟩ (cbT_f (cbT_f (cbT_f (cbT_f (cbT_f (cbT_f (cbT_f (cbT_f (cbT_nil))))))))))))))) (va_cons (ve_xattr (ve_ix (ve_name 0) (ve_int)) (cbT_f (cbT_f (cbT_t ⟨T.e_NoDrawing, T.a_NoDrawing_word⟩ (cbT_f (cbT_f (cbT_t ⟨T.e_NoPaper, T.a_NoPaper_word⟩ (cbT_f (cbT_f (cbT_f (cbT_f (cbT_f (cbT_f (cbT_f (cbT_nil))))))))))))))) (va_nil)))))))))) (vss_one (vs_ret (ve_add (ve_name 1) (ve_lst (va_cons (ve_xattr (ve_ix (ve_name 0) (ve_int)) (cbT_f (cbT_f (cbT_f (cbT_f (cbT_f (cbT_f (cbT_t ⟨T.e_Twice, T.a_Twice_name⟩ (cbT_t ⟨T.e_NoName, T.a_NoName_name⟩ (cbT_t ⟨T.e_TooLong, T.a_TooLong_name⟩ (cbT_f (cbT_f (cbT_f (cbT_f (cbT_nil))))))))))))))) (va_cons (ve_xattr (ve_ix (ve_name 0) (ve_int)) (cbT_f (cbT_f (cbT_f (cbT_f (cbT_f (cbT_f (cbT_t ⟨T.e_Twice, T.a_Twice_name⟩ (cbT_t ⟨T.e_NoName, T.a_NoName_name⟩ (cbT_t ⟨T.e_TooLong, T.a_TooLong_name⟩ (cbT_f (cbT_f (cbT_f (cbT_f (cbT_nil))))))))))))))) (va_cons (ve_xattr (ve_ix (ve_name 0) (ve_int)) (cbT_f (cbT_f (cbT_f (cbT_f (cbT_f (cbT_f (cbT_t ⟨T.e_Twice, T.a_Twice_name⟩ (cbT_t ⟨T.e_NoName, T.a_NoName_name⟩ (cbT_t ⟨T.e_TooLong, T.a_TooLong_name⟩ (cbT_f (cbT_f (cbT_f (cbT_f (cbT_nil))))))))))))))) (va_nil))))))))
theorem ok_law_fields : FnG P w K mg base CX0 1 T.f_law_fields T.fd_law_fields ["_law_made_here"] (sp0 K (clsT T) flds1 m_law_fields) := fn0 T.d_law_fields.fn sc_law_fields (w_law_fields T) len_law_fields p_law_fields
theorem w_law : VSs (fam0 P w K mg base N_law "law" (defScope s_law) T.f_law 3 (clsT T) flds1) (defBody s_law) t_law :=
  vss_cons (vs_set (i := 1) (fun _ => sc_law.nd) (ve_call0 (fun _ => ok_law_box T) (fun p => p.hr.mono (by decide)) hg0 (fun _ => T.d_law_box.g) T.d_law_box.fn.kp T.d_law_box.b (va_cons (ve_name 0) (va_cons (ve_int) (va_nil))))) (vss_cons (vs_set (i := 2) (fun _ => sc_law.nd) (ve_lst (va_nil))) (vss_cons (vs_for (fun _ => PassesOwn.never) (vi_range1 (fun _ => T.n_range) (vr_cons (ve_int) (vr_nil))) (vg_name (i := 3) (fun _ => sc_law.nd)) (vss_cons (vs_set (i := 4) (fun _ => sc_law.nd) (ve_ix (ve_lst (va_cons (ve_sub (ve_call0 (fun _ => ok_law_take T) (fun p => p.hr.mono (by decide)) hg0 (fun _ => T.d_law_take.g) T.d_law_take.fn.kp T.d_law_take.b (va_cons (ve_name 1) (va_cons (ve_int) (va_nil)))) (ve_int)) (va_cons (ve_call0 (fun _ => ok_law_take T) (fun p => p.hr.mono (by decide)) hg0 (fun _ => T.d_law_take.g) T.d_law_take.fn.kp T.d_law_take.b (va_cons (ve_name 1) (va_cons (ve_pow (ve_int) (ve_int)) (va_nil)))) (va_nil)))) (ve_call0 (fun _ => ok_law_take T) (fun p => p.hr.mono (by decide)) hg0 (fun _ => T.d_law_take.g) T.d_law_take.fn.kp T.d_law_take.b (va_cons (ve_name 1) (va_cons (ve_int) (va_nil)))))) (vss_cons (vs_set (i := 5) (fun _ => sc_law.nd) (ve_join (ve_str []) (vr_cons (ve_lc (fun _ => sc_law.nd) (vi_range1 (fun _ => T.n_range) (vr_cons (ve_call0 (fun _ => ok_law_take T) (fun p => p.hr.mono (by decide)) hg0 (fun _ => T.d_law_take.g) T.d_law_take.fn.kp T.d_law_take.b (va_cons (ve_name 1) (va_cons (ve_int) (va_nil)))) (vr_nil))) (fun _ => blkOk_by (own := [("_law_j", 10)]) (by show blkC N_law (defScope s_law) _ _ = true; decide +kernel)) (vg_name (i := 10) (fun _ => sc_law.nd)) (vts_nil) (ve_ix (ve_str SM) (ve_call0 (fun _ => ok_law_take T) (fun p => p.1.hr.mono (by decide)) (hg_blk hg0) (fun _ => T.d_law_take.g) T.d_law_take.fn.kp T.d_law_take.b (va_cons (ve_name 1) (va_cons (ve_int) (va_nil)))))) (vr_nil)))) (vss_one (vs_expr (ve_append (ve_name 2) (va_cons (ve_tup (va_cons (ve_name 4) (va_cons (ve_name 5) (va_cons (ve_call0 (fun _ => ok_law_made T) (fun p => p.hr.mono (by decide)) hg0 (fun _ => T.d_law_made.g) T.d_law_made.fn.kp T.d_law_made.b (va_cons (ve_name 4) (va_cons (ve_name 5) (va_nil)))) (va_nil))))) (va_nil)))))))) (vss_cons (vs_for (fun _ => PassesOwn.never) (vi_any (ve_name 2)) (vg_tup (vgs_cons (vg_name (i := 4) (fun _ => sc_law.nd)) (vgs_cons (vg_name (i := 5) (fun _ => sc_law.nd)) (vgs_cons (vg_name (i := 6) (fun _ => sc_law.nd)) (vgs_nil))))) (vss_cons (vs_if (vt_ne hu0 (ve_repr hg0 hu0 (fun _ => T.n_repr) (vr_cons (ve_call0 (fun _ => ok_law_fields T) (fun p => p.hr.mono (by decide)) hg0 (fun _ => T.d_law_fields.g) T.d_law_fields.fn.kp T.d_law_fields.b (va_cons (ve_name 6) (va_nil))) (vr_nil))) (ve_repr hg0 hu0 (fun _ => T.n_repr) (vr_cons (ve_add (ve_lst (va_cons (ve_name 4) (va_cons (ve_name 4) (va_cons (ve_name 5) (va_cons (ve_name 4) (va_cons (ve_name 4) (va_cons (ve_name 4) (va_nil)))))))) (ve_mul (ve_lst (va_cons (ve_name 5) (va_nil))) (ve_int))) (vr_nil)))) (vss_one (vs_ret (ve_bl))) (vss_nil)) (vss_cons (vs_for (fun _ => PassesOwn.never) (vi_enum (fun _ => T.n_enumerate) (vr_cons (ve_name 6) (vr_nil))) (vg_tup (vgs_cons (vg_name (i := 3) (fun _ => sc_law.nd)) (vgs_cons (vg_name (i := 7) (fun _ => sc_law.nd)) (vgs_nil)))) (vss_one (vs_if (vt_ne hu0 (ve_call0 (fun _ => ok_law_kinds T) (fun p => p.hr.mono (by decide)) hg0 (fun _ => T.d_law_kinds.g) T.d_law_kinds.fn.kp T.d_law_kinds.b (va_cons (ve_name 7) (va_nil))) (ve_add (ve_lc (fun _ => sc_law.nd) (vi_range1 (fun _ => T.n_range) (vr_cons (ve_int) (vr_nil))) (fun _ => blkOk_by (own := [("_law_j", 10)]) (by show blkC N_law (defScope s_law) _ _ = true; decide +kernel)) (vg_name (i := 10) (fun _ => sc_law.nd)) (vts_nil) (ve_eq (hu_blk hu0) (ve_name 10) (ve_name 3))) (ve_lst (va_cons (ve_bl) (va_cons (ve_bl) (va_nil)))))) (vss_one (vs_ret (ve_bl))) (vss_nil)))) (vss_one (vs_for (fun _ => PassesOwn.never) (vi_any (ve_tup (va_cons (ve_tup (va_cons (ve_int) (va_cons (ve_int) (va_nil)))) (va_cons (ve_tup (va_cons (ve_int) (va_cons (ve_int) (va_nil)))) (va_cons (ve_tup (va_cons (ve_int) (va_cons (ve_int) (va_nil)))) (va_nil)))))) (vg_tup (vgs_cons (vg_name (i := 8) (fun _ => sc_law.nd)) (vgs_cons (vg_name (i := 9) (fun _ => sc_law.nd)) (vgs_nil)))) (vss_one (vs_if (vt_ne hu0 (ve_call0 (fun _ => ok_law_kinds T) (fun p => p.hr.mono (by decide)) hg0 (fun _ => T.d_law_kinds.g) T.d_law_kinds.fn.kp T.d_law_kinds.b (va_cons (ve_call0 (fun _ => ok_law_caught T) (fun p => p.hr.mono (by decide)) hg0 (fun _ => T.d_law_caught.g) T.d_law_caught.fn.kp T.d_law_caught.b (va_cons (ve_name 8) (va_cons (ve_name 4) (va_cons (ve_name 5) (va_nil))))) (va_nil))) (ve_call0 (fun _ => ok_law_kinds T) (fun p => p.hr.mono (by decide)) hg0 (fun _ => T.d_law_kinds.g) T.d_law_kinds.fn.kp T.d_law_kinds.b (va_cons (ve_ix (ve_name 6) (ve_name 9)) (va_nil)))) (vss_one (vs_ret (ve_bl))) (vss_nil)))))))) (vss_one (vs_ret (ve_bl))))))
theorem ok_law : FnG P w K mg base CX0 4 T.f_law T.fd_law ["_law_script"] (sp0 K (clsT T) flds1 m_law) := fn0 T.d_law.fn sc_law (w_law T) len_law p_law
end
theorem all_mk {l : PySem.W.OpenLaw} {w : World} {K : PySem.W.Frag} {h : Heap} {mg : Str → Option Value} {fa f1 f2 f3 f4 f5 f6 f7 : Addr} (X : K.In h) (G : h.Ns mainGlobals mg) (hfa : mg "law" = some (.ref fa))
    {od1 an1 od2 an2 od3 an3 od4 an4 od5 an5 od6 an6 od7 an7 : Option Addr} {sl1 sl2 sl3 sl4 sl5 sl6 sl7 : Array (Option Value)} {oc1 kV1 dc1 pm1 cd1 ct1 oc2 kV2 dc2 pm2 cd2 ct2 oc3 kV3 dc3 pm3 cd3 ct3 oc4 kV4 dc4 pm4 cd4 ct4 oc5 kV5 dc5 pm5 cd5 ct5 oc6 kV6 dc6 pm6 cd6 ct6 oc7 kV7 dc7 pm7 cd7 ct7 : Value}  {C_MeetError C_NoCut C_NoDeed C_NoDrawing C_NoName C_NoPaper C_NoRow C_NoText C_NoWord C_NoYard C_NotApart C_NotLone C_TooLong C_Twice : Addr} {nm_NoYard qn_NoYard : Str} {N_NoYard : Addr} {bz_NoYard : List Value} {sn_NoYard : List Str} {sub_NoYard : List Value} {ab_NoYard : Bool} {col_NoYard : Option Bool} {dd_NoYard : Option Addr} {q0_NoYard q1_NoYard q2_NoYard q3_NoYard q5_NoYard : Option Value} {I_NoYard : Addr} {iod_NoYard ian_NoYard : Option Addr} {isl_NoYard : Array (Option Value)} {ioc_NoYard ikV_NoYard idc_NoYard ipm_NoYard icd_NoYard ict_NoYard : Value} {nm_NoWord qn_NoWord : Str} {N_NoWord : Addr} {bz_NoWord : List Value} {sn_NoWord : List Str} {sub_NoWord : List Value} {ab_NoWord : Bool} {col_NoWord : Option Bool} {dd_NoWord : Option Addr} {q0_NoWord q1_NoWord q2_NoWord q3_NoWord q5_NoWord : Option Value} {I_NoWord : Addr} {iod_NoWord ian_NoWord : Option Addr} {isl_NoWord : Array (Option Value)} {ioc_NoWord ikV_NoWord idc_NoWord ipm_NoWord icd_NoWord ict_NoWord : Value} {nm_NoDrawing qn_NoDrawing : Str} {N_NoDrawing : Addr} {bz_NoDrawing : List Value} {sn_NoDrawing : List Str} {sub_NoDrawing : List Value} {ab_NoDrawing : Bool} {col_NoDrawing : Option Bool} {dd_NoDrawing : Option Addr} {q0_NoDrawing q1_NoDrawing q2_NoDrawing q3_NoDrawing q5_NoDrawing : Option Value} {I_NoDrawing : Addr} {iod_NoDrawing ian_NoDrawing : Option Addr} {isl_NoDrawing : Array (Option Value)} {ioc_NoDrawing ikV_NoDrawing idc_NoDrawing ipm_NoDrawing icd_NoDrawing ict_NoDrawing : Value} {nm_NoText qn_NoText : Str} {N_NoText : Addr} {bz_NoText : List Value} {sn_NoText : List Str} {sub_NoText : List Value} {ab_NoText : Bool} {col_NoText : Option Bool} {dd_NoText : Option Addr} {q0_NoText q1_NoText q2_NoText q3_NoText q5_NoText : Option Value} {I_NoText : Addr} {iod_NoText ian_NoText : Option Addr} {isl_NoText : Array (Option Value)} {ioc_NoText ikV_NoText idc_NoText ipm_NoText icd_NoText ict_NoText : Value} {nm_NoDeed qn_NoDeed : Str} {N_NoDeed : Addr} {bz_NoDeed : List Value} {sn_NoDeed : List Str} {sub_NoDeed : List Value} {ab_NoDeed : Bool} {col_NoDeed : Option Bool} {dd_NoDeed : Option Addr} {q0_NoDeed q1_NoDeed q2_NoDeed q3_NoDeed q5_NoDeed : Option Value} {I_NoDeed : Addr} {iod_NoDeed ian_NoDeed : Option Addr} {isl_NoDeed : Array (Option Value)} {ioc_NoDeed ikV_NoDeed idc_NoDeed ipm_NoDeed icd_NoDeed ict_NoDeed : Value} {nm_NoPaper qn_NoPaper : Str} {N_NoPaper : Addr} {bz_NoPaper : List Value} {sn_NoPaper : List Str} {sub_NoPaper : List Value} {ab_NoPaper : Bool} {col_NoPaper : Option Bool} {dd_NoPaper : Option Addr} {q0_NoPaper q1_NoPaper q2_NoPaper q3_NoPaper q5_NoPaper : Option Value} {I_NoPaper : Addr} {iod_NoPaper ian_NoPaper : Option Addr} {isl_NoPaper : Array (Option Value)} {ioc_NoPaper ikV_NoPaper idc_NoPaper ipm_NoPaper icd_NoPaper ict_NoPaper : Value} {nm_Twice qn_Twice : Str} {N_Twice : Addr} {bz_Twice : List Value} {sn_Twice : List Str} {sub_Twice : List Value} {ab_Twice : Bool} {col_Twice : Option Bool} {dd_Twice : Option Addr} {q0_Twice q1_Twice q2_Twice q3_Twice q5_Twice : Option Value} {I_Twice : Addr} {iod_Twice ian_Twice : Option Addr} {isl_Twice : Array (Option Value)} {ioc_Twice ikV_Twice idc_Twice ipm_Twice icd_Twice ict_Twice : Value} {nm_NoName qn_NoName : Str} {N_NoName : Addr} {bz_NoName : List Value} {sn_NoName : List Str} {sub_NoName : List Value} {ab_NoName : Bool} {col_NoName : Option Bool} {dd_NoName : Option Addr} {q0_NoName q1_NoName q2_NoName q3_NoName q5_NoName : Option Value} {I_NoName : Addr} {iod_NoName ian_NoName : Option Addr} {isl_NoName : Array (Option Value)} {ioc_NoName ikV_NoName idc_NoName ipm_NoName icd_NoName ict_NoName : Value} {nm_TooLong qn_TooLong : Str} {N_TooLong : Addr} {bz_TooLong : List Value} {sn_TooLong : List Str} {sub_TooLong : List Value} {ab_TooLong : Bool} {col_TooLong : Option Bool} {dd_TooLong : Option Addr} {q0_TooLong q1_TooLong q2_TooLong q3_TooLong q5_TooLong : Option Value} {I_TooLong : Addr} {iod_TooLong ian_TooLong : Option Addr} {isl_TooLong : Array (Option Value)} {ioc_TooLong ikV_TooLong idc_TooLong ipm_TooLong icd_TooLong ict_TooLong : Value}
        (a1 : PySem.W.nsIn K mainGlobals "_law_box" = some (some (.ref f1))) (l1 : K.lookup f1 = some ⟨oc1, od1, .func (PySem.W.fnOf "_law_box" "_law_box" (defArgs s_law_box) (defBody s_law_box) (defScope s_law_box) .none kV1 dc1 pm1 an1 cd1 ct1), sl1⟩) (c1 : PySem.W.codeIn K cd1 "_law_box" = true) (k1 : PySem.W.keepIn K (.ref f1) = true)
    (a2 : PySem.W.nsIn K mainGlobals "_law_take" = some (some (.ref f2))) (l2 : K.lookup f2 = some ⟨oc2, od2, .func (PySem.W.fnOf "_law_take" "_law_take" (defArgs s_law_take) (defBody s_law_take) (defScope s_law_take) .none kV2 dc2 pm2 an2 cd2 ct2), sl2⟩) (c2 : PySem.W.codeIn K cd2 "_law_take" = true) (k2 : PySem.W.keepIn K (.ref f2) = true)
    (a3 : PySem.W.nsIn K mainGlobals "_law_made" = some (some (.ref f3))) (l3 : K.lookup f3 = some ⟨oc3, od3, .func (PySem.W.fnOf "_law_made" "_law_made" (defArgs s_law_made) (defBody s_law_made) (defScope s_law_made) .none kV3 dc3 pm3 an3 cd3 ct3), sl3⟩) (c3 : PySem.W.codeIn K cd3 "_law_made" = true) (k3 : PySem.W.keepIn K (.ref f3) = true)
    (a4 : PySem.W.nsIn K mainGlobals "_law_kinds" = some (some (.ref f4))) (l4 : K.lookup f4 = some ⟨oc4, od4, .func (PySem.W.fnOf "_law_kinds" "_law_kinds" (defArgs s_law_kinds) (defBody s_law_kinds) (defScope s_law_kinds) .none kV4 dc4 pm4 an4 cd4 ct4), sl4⟩) (c4 : PySem.W.codeIn K cd4 "_law_kinds" = true) (k4 : PySem.W.keepIn K (.ref f4) = true)
    (a5 : PySem.W.nsIn K mainGlobals "_law_caught" = some (some (.ref f5))) (l5 : K.lookup f5 = some ⟨oc5, od5, .func (PySem.W.fnOf "_law_caught" "_law_caught" (defArgs s_law_caught) (defBody s_law_caught) (defScope s_law_caught) .none kV5 dc5 pm5 an5 cd5 ct5), sl5⟩) (c5 : PySem.W.codeIn K cd5 "_law_caught" = true) (k5 : PySem.W.keepIn K (.ref f5) = true)
    (a6 : PySem.W.nsIn K mainGlobals "_law_fields" = some (some (.ref f6))) (l6 : K.lookup f6 = some ⟨oc6, od6, .func (PySem.W.fnOf "_law_fields" "_law_fields" (defArgs s_law_fields) (defBody s_law_fields) (defScope s_law_fields) .none kV6 dc6 pm6 an6 cd6 ct6), sl6⟩) (c6 : PySem.W.codeIn K cd6 "_law_fields" = true) (k6 : PySem.W.keepIn K (.ref f6) = true)
    (a7 : PySem.W.nsIn K mainGlobals "law" = some (some (.ref f7))) (l7 : K.lookup f7 = some ⟨oc7, od7, .func (PySem.W.fnOf "law" "law" (defArgs s_law) (defBody s_law) (defScope s_law) .none kV7 dc7 pm7 an7 cd7 ct7), sl7⟩) (c7 : PySem.W.codeIn K cd7 "law" = true) (k7 : PySem.W.keepIn K (.ref f7) = true)
    (b1 : PySem.W.nsIn K mainGlobals "ValueError" = some none) (b2 : PySem.W.nsIn K mainGlobals "enumerate" = some none) (b3 : PySem.W.nsIn K mainGlobals "int" = some none) (b4 : PySem.W.nsIn K mainGlobals "isinstance" = some none) (b5 : PySem.W.nsIn K mainGlobals "len" = some none) (b6 : PySem.W.nsIn K mainGlobals "range" = some none) (b7 : PySem.W.nsIn K mainGlobals "repr" = some none)  (u_MeetError : PySem.W.nsIn K mainGlobals "MeetError" = some (some (.ref C_MeetError))) (u_NoCut : PySem.W.nsIn K mainGlobals "NoCut" = some (some (.ref C_NoCut))) (u_NoDeed : PySem.W.nsIn K mainGlobals "NoDeed" = some (some (.ref C_NoDeed))) (u_NoDrawing : PySem.W.nsIn K mainGlobals "NoDrawing" = some (some (.ref C_NoDrawing))) (u_NoName : PySem.W.nsIn K mainGlobals "NoName" = some (some (.ref C_NoName))) (u_NoPaper : PySem.W.nsIn K mainGlobals "NoPaper" = some (some (.ref C_NoPaper))) (u_NoRow : PySem.W.nsIn K mainGlobals "NoRow" = some (some (.ref C_NoRow))) (u_NoText : PySem.W.nsIn K mainGlobals "NoText" = some (some (.ref C_NoText))) (u_NoWord : PySem.W.nsIn K mainGlobals "NoWord" = some (some (.ref C_NoWord))) (u_NoYard : PySem.W.nsIn K mainGlobals "NoYard" = some (some (.ref C_NoYard))) (u_NotApart : PySem.W.nsIn K mainGlobals "NotApart" = some (some (.ref C_NotApart))) (u_NotLone : PySem.W.nsIn K mainGlobals "NotLone" = some (some (.ref C_NotLone))) (u_TooLong : PySem.W.nsIn K mainGlobals "TooLong" = some (some (.ref C_TooLong))) (u_Twice : PySem.W.nsIn K mainGlobals "Twice" = some (some (.ref C_Twice))) (br : PySem.W.readsIn K C_MeetError (.type "type") = true) (bs : PySem.W.specialIn K (.ref C_MeetError) "__getattribute__" = some (some (.builtin "type.__getattribute__"))) (bv : PySem.W.findCls K (.ref C_MeetError) (.type "type") "__init__" = some (.val (.builtin "ValueError.__init__"))) (gn : PySem.W.specialIn K (.builtin "object.__class__") "__get__" = some (some (.builtin "getset_descriptor.__get__"))) (gt : PySem.W.takesIn K (.builtin "object.__class__") = some true) (cb_MeetError : PySem.W.subIn K (.ref C_MeetError) (.type "BaseException") = some true) (cd_MeetError : PySem.W.hasDictIn K C_MeetError = true) (ct_MeetError : PySem.W.typeIn K (.ref C_MeetError) = some (.type "type")) (xL_NoYard : K.lookup C_NoYard = some (excClassObj nm_NoYard qn_NoYard C_NoYard N_NoYard bz_NoYard [.ref C_MeetError, .type "ValueError", .type "Exception", .type "BaseException", .type "object"] true sn_NoYard sub_NoYard ab_NoYard col_NoYard dd_NoYard q0_NoYard q1_NoYard q2_NoYard q3_NoYard q5_NoYard "ValueError.__new__")) (sa_NoYard : PySem.W.findIn K (.ref C_NoYard) "__setattr__" = some (some (.builtin "object.__setattr__"))) (ex_NoYard : PySem.W.subIn K (.ref C_NoYard) (.type "BaseException") = some true) (ty_NoYard : PySem.W.typeIn K (.ref C_NoYard) = some (.type "type")) (kc_NoYard : PySem.W.keepIn K (.ref C_NoYard) = true) (ga_NoYard : PySem.W.findIn K (.ref C_NoYard) "__getattribute__" = some (some (.builtin "BaseException.__getattribute__"))) (gg_NoYard : PySem.W.findIn K (.ref C_NoYard) "__getattr__" = some none) (hd_NoYard : PySem.W.hasDictIn K C_NoYard = true) (ha_NoYard : PySem.W.findIn K (.ref C_NoYard) "__class__" = some (some (.builtin "object.__class__"))) (hm_NoYard : PySem.W.mroIn K C_NoYard (.type "object") = some true) (ii_NoYard : PySem.W.findIn K (.ref C_NoYard) "__init__" = some (some (.ref I_NoYard))) (it_NoYard : PySem.W.typeIn K (.ref I_NoYard) = some (.type "function")) (il_NoYard : K.lookup I_NoYard = some ⟨ioc_NoYard, iod_NoYard, .func (PySem.W.fnOf "__init__" "NoYard.__init__" (defArgs s_NoYard) (defBody s_NoYard) (defScope s_NoYard) .none ikV_NoYard idc_NoYard ipm_NoYard ian_NoYard icd_NoYard ict_NoYard), isl_NoYard⟩) (ic_NoYard : PySem.W.codeIn K icd_NoYard "NoYard.__init__" = true) (ik_NoYard : PySem.W.keepIn K (.ref I_NoYard) = true) (xL_NoWord : K.lookup C_NoWord = some (excClassObj nm_NoWord qn_NoWord C_NoWord N_NoWord bz_NoWord [.ref C_MeetError, .type "ValueError", .type "Exception", .type "BaseException", .type "object"] true sn_NoWord sub_NoWord ab_NoWord col_NoWord dd_NoWord q0_NoWord q1_NoWord q2_NoWord q3_NoWord q5_NoWord "ValueError.__new__")) (sa_NoWord : PySem.W.findIn K (.ref C_NoWord) "__setattr__" = some (some (.builtin "object.__setattr__"))) (ex_NoWord : PySem.W.subIn K (.ref C_NoWord) (.type "BaseException") = some true) (ty_NoWord : PySem.W.typeIn K (.ref C_NoWord) = some (.type "type")) (kc_NoWord : PySem.W.keepIn K (.ref C_NoWord) = true) (ga_NoWord : PySem.W.findIn K (.ref C_NoWord) "__getattribute__" = some (some (.builtin "BaseException.__getattribute__"))) (gg_NoWord : PySem.W.findIn K (.ref C_NoWord) "__getattr__" = some none) (hd_NoWord : PySem.W.hasDictIn K C_NoWord = true) (ha_NoWord : PySem.W.findIn K (.ref C_NoWord) "__class__" = some (some (.builtin "object.__class__"))) (hm_NoWord : PySem.W.mroIn K C_NoWord (.type "object") = some true) (ii_NoWord : PySem.W.findIn K (.ref C_NoWord) "__init__" = some (some (.ref I_NoWord))) (it_NoWord : PySem.W.typeIn K (.ref I_NoWord) = some (.type "function")) (il_NoWord : K.lookup I_NoWord = some ⟨ioc_NoWord, iod_NoWord, .func (PySem.W.fnOf "__init__" "NoWord.__init__" (defArgs s_NoWord) (defBody s_NoWord) (defScope s_NoWord) .none ikV_NoWord idc_NoWord ipm_NoWord ian_NoWord icd_NoWord ict_NoWord), isl_NoWord⟩) (ic_NoWord : PySem.W.codeIn K icd_NoWord "NoWord.__init__" = true) (ik_NoWord : PySem.W.keepIn K (.ref I_NoWord) = true) (xL_NoDrawing : K.lookup C_NoDrawing = some (excClassObj nm_NoDrawing qn_NoDrawing C_NoDrawing N_NoDrawing bz_NoDrawing [.ref C_MeetError, .type "ValueError", .type "Exception", .type "BaseException", .type "object"] true sn_NoDrawing sub_NoDrawing ab_NoDrawing col_NoDrawing dd_NoDrawing q0_NoDrawing q1_NoDrawing q2_NoDrawing q3_NoDrawing q5_NoDrawing "ValueError.__new__")) (sa_NoDrawing : PySem.W.findIn K (.ref C_NoDrawing) "__setattr__" = some (some (.builtin "object.__setattr__"))) (ex_NoDrawing : PySem.W.subIn K (.ref C_NoDrawing) (.type "BaseException") = some true) (ty_NoDrawing : PySem.W.typeIn K (.ref C_NoDrawing) = some (.type "type")) (kc_NoDrawing : PySem.W.keepIn K (.ref C_NoDrawing) = true) (ga_NoDrawing : PySem.W.findIn K (.ref C_NoDrawing) "__getattribute__" = some (some (.builtin "BaseException.__getattribute__"))) (gg_NoDrawing : PySem.W.findIn K (.ref C_NoDrawing) "__getattr__" = some none) (hd_NoDrawing : PySem.W.hasDictIn K C_NoDrawing = true) (ha_NoDrawing : PySem.W.findIn K (.ref C_NoDrawing) "__class__" = some (some (.builtin "object.__class__"))) (hm_NoDrawing : PySem.W.mroIn K C_NoDrawing (.type "object") = some true) (ii_NoDrawing : PySem.W.findIn K (.ref C_NoDrawing) "__init__" = some (some (.ref I_NoDrawing))) (it_NoDrawing : PySem.W.typeIn K (.ref I_NoDrawing) = some (.type "function")) (il_NoDrawing : K.lookup I_NoDrawing = some ⟨ioc_NoDrawing, iod_NoDrawing, .func (PySem.W.fnOf "__init__" "NoDrawing.__init__" (defArgs s_NoDrawing) (defBody s_NoDrawing) (defScope s_NoDrawing) .none ikV_NoDrawing idc_NoDrawing ipm_NoDrawing ian_NoDrawing icd_NoDrawing ict_NoDrawing), isl_NoDrawing⟩) (ic_NoDrawing : PySem.W.codeIn K icd_NoDrawing "NoDrawing.__init__" = true) (ik_NoDrawing : PySem.W.keepIn K (.ref I_NoDrawing) = true) (xL_NoText : K.lookup C_NoText = some (excClassObj nm_NoText qn_NoText C_NoText N_NoText bz_NoText [.ref C_MeetError, .type "ValueError", .type "Exception", .type "BaseException", .type "object"] true sn_NoText sub_NoText ab_NoText col_NoText dd_NoText q0_NoText q1_NoText q2_NoText q3_NoText q5_NoText "ValueError.__new__")) (sa_NoText : PySem.W.findIn K (.ref C_NoText) "__setattr__" = some (some (.builtin "object.__setattr__"))) (ex_NoText : PySem.W.subIn K (.ref C_NoText) (.type "BaseException") = some true) (ty_NoText : PySem.W.typeIn K (.ref C_NoText) = some (.type "type")) (kc_NoText : PySem.W.keepIn K (.ref C_NoText) = true) (ga_NoText : PySem.W.findIn K (.ref C_NoText) "__getattribute__" = some (some (.builtin "BaseException.__getattribute__"))) (gg_NoText : PySem.W.findIn K (.ref C_NoText) "__getattr__" = some none) (hd_NoText : PySem.W.hasDictIn K C_NoText = true) (ha_NoText : PySem.W.findIn K (.ref C_NoText) "__class__" = some (some (.builtin "object.__class__"))) (hm_NoText : PySem.W.mroIn K C_NoText (.type "object") = some true) (ii_NoText : PySem.W.findIn K (.ref C_NoText) "__init__" = some (some (.ref I_NoText))) (it_NoText : PySem.W.typeIn K (.ref I_NoText) = some (.type "function")) (il_NoText : K.lookup I_NoText = some ⟨ioc_NoText, iod_NoText, .func (PySem.W.fnOf "__init__" "NoText.__init__" (defArgs s_NoText) (defBody s_NoText) (defScope s_NoText) .none ikV_NoText idc_NoText ipm_NoText ian_NoText icd_NoText ict_NoText), isl_NoText⟩) (ic_NoText : PySem.W.codeIn K icd_NoText "NoText.__init__" = true) (ik_NoText : PySem.W.keepIn K (.ref I_NoText) = true) (xL_NoDeed : K.lookup C_NoDeed = some (excClassObj nm_NoDeed qn_NoDeed C_NoDeed N_NoDeed bz_NoDeed [.ref C_MeetError, .type "ValueError", .type "Exception", .type "BaseException", .type "object"] true sn_NoDeed sub_NoDeed ab_NoDeed col_NoDeed dd_NoDeed q0_NoDeed q1_NoDeed q2_NoDeed q3_NoDeed q5_NoDeed "ValueError.__new__")) (sa_NoDeed : PySem.W.findIn K (.ref C_NoDeed) "__setattr__" = some (some (.builtin "object.__setattr__"))) (ex_NoDeed : PySem.W.subIn K (.ref C_NoDeed) (.type "BaseException") = some true) (ty_NoDeed : PySem.W.typeIn K (.ref C_NoDeed) = some (.type "type")) (kc_NoDeed : PySem.W.keepIn K (.ref C_NoDeed) = true) (ga_NoDeed : PySem.W.findIn K (.ref C_NoDeed) "__getattribute__" = some (some (.builtin "BaseException.__getattribute__"))) (gg_NoDeed : PySem.W.findIn K (.ref C_NoDeed) "__getattr__" = some none) (hd_NoDeed : PySem.W.hasDictIn K C_NoDeed = true) (ha_NoDeed : PySem.W.findIn K (.ref C_NoDeed) "__class__" = some (some (.builtin "object.__class__"))) (hm_NoDeed : PySem.W.mroIn K C_NoDeed (.type "object") = some true) (ii_NoDeed : PySem.W.findIn K (.ref C_NoDeed) "__init__" = some (some (.ref I_NoDeed))) (it_NoDeed : PySem.W.typeIn K (.ref I_NoDeed) = some (.type "function")) (il_NoDeed : K.lookup I_NoDeed = some ⟨ioc_NoDeed, iod_NoDeed, .func (PySem.W.fnOf "__init__" "NoDeed.__init__" (defArgs s_NoDeed) (defBody s_NoDeed) (defScope s_NoDeed) .none ikV_NoDeed idc_NoDeed ipm_NoDeed ian_NoDeed icd_NoDeed ict_NoDeed), isl_NoDeed⟩) (ic_NoDeed : PySem.W.codeIn K icd_NoDeed "NoDeed.__init__" = true) (ik_NoDeed : PySem.W.keepIn K (.ref I_NoDeed) = true) (xL_NoPaper : K.lookup C_NoPaper = some (excClassObj nm_NoPaper qn_NoPaper C_NoPaper N_NoPaper bz_NoPaper [.ref C_MeetError, .type "ValueError", .type "Exception", .type "BaseException", .type "object"] true sn_NoPaper sub_NoPaper ab_NoPaper col_NoPaper dd_NoPaper q0_NoPaper q1_NoPaper q2_NoPaper q3_NoPaper q5_NoPaper "ValueError.__new__")) (sa_NoPaper : PySem.W.findIn K (.ref C_NoPaper) "__setattr__" = some (some (.builtin "object.__setattr__"))) (ex_NoPaper : PySem.W.subIn K (.ref C_NoPaper) (.type "BaseException") = some true) (ty_NoPaper : PySem.W.typeIn K (.ref C_NoPaper) = some (.type "type")) (kc_NoPaper : PySem.W.keepIn K (.ref C_NoPaper) = true) (ga_NoPaper : PySem.W.findIn K (.ref C_NoPaper) "__getattribute__" = some (some (.builtin "BaseException.__getattribute__"))) (gg_NoPaper : PySem.W.findIn K (.ref C_NoPaper) "__getattr__" = some none) (hd_NoPaper : PySem.W.hasDictIn K C_NoPaper = true) (ha_NoPaper : PySem.W.findIn K (.ref C_NoPaper) "__class__" = some (some (.builtin "object.__class__"))) (hm_NoPaper : PySem.W.mroIn K C_NoPaper (.type "object") = some true) (ii_NoPaper : PySem.W.findIn K (.ref C_NoPaper) "__init__" = some (some (.ref I_NoPaper))) (it_NoPaper : PySem.W.typeIn K (.ref I_NoPaper) = some (.type "function")) (il_NoPaper : K.lookup I_NoPaper = some ⟨ioc_NoPaper, iod_NoPaper, .func (PySem.W.fnOf "__init__" "NoPaper.__init__" (defArgs s_NoPaper) (defBody s_NoPaper) (defScope s_NoPaper) .none ikV_NoPaper idc_NoPaper ipm_NoPaper ian_NoPaper icd_NoPaper ict_NoPaper), isl_NoPaper⟩) (ic_NoPaper : PySem.W.codeIn K icd_NoPaper "NoPaper.__init__" = true) (ik_NoPaper : PySem.W.keepIn K (.ref I_NoPaper) = true) (xL_Twice : K.lookup C_Twice = some (excClassObj nm_Twice qn_Twice C_Twice N_Twice bz_Twice [.ref C_MeetError, .type "ValueError", .type "Exception", .type "BaseException", .type "object"] true sn_Twice sub_Twice ab_Twice col_Twice dd_Twice q0_Twice q1_Twice q2_Twice q3_Twice q5_Twice "ValueError.__new__")) (sa_Twice : PySem.W.findIn K (.ref C_Twice) "__setattr__" = some (some (.builtin "object.__setattr__"))) (ex_Twice : PySem.W.subIn K (.ref C_Twice) (.type "BaseException") = some true) (ty_Twice : PySem.W.typeIn K (.ref C_Twice) = some (.type "type")) (kc_Twice : PySem.W.keepIn K (.ref C_Twice) = true) (ga_Twice : PySem.W.findIn K (.ref C_Twice) "__getattribute__" = some (some (.builtin "BaseException.__getattribute__"))) (gg_Twice : PySem.W.findIn K (.ref C_Twice) "__getattr__" = some none) (hd_Twice : PySem.W.hasDictIn K C_Twice = true) (ha_Twice : PySem.W.findIn K (.ref C_Twice) "__class__" = some (some (.builtin "object.__class__"))) (hm_Twice : PySem.W.mroIn K C_Twice (.type "object") = some true) (ii_Twice : PySem.W.findIn K (.ref C_Twice) "__init__" = some (some (.ref I_Twice))) (it_Twice : PySem.W.typeIn K (.ref I_Twice) = some (.type "function")) (il_Twice : K.lookup I_Twice = some ⟨ioc_Twice, iod_Twice, .func (PySem.W.fnOf "__init__" "Twice.__init__" (defArgs s_Twice) (defBody s_Twice) (defScope s_Twice) .none ikV_Twice idc_Twice ipm_Twice ian_Twice icd_Twice ict_Twice), isl_Twice⟩) (ic_Twice : PySem.W.codeIn K icd_Twice "Twice.__init__" = true) (ik_Twice : PySem.W.keepIn K (.ref I_Twice) = true) (xL_NoName : K.lookup C_NoName = some (excClassObj nm_NoName qn_NoName C_NoName N_NoName bz_NoName [.ref C_MeetError, .type "ValueError", .type "Exception", .type "BaseException", .type "object"] true sn_NoName sub_NoName ab_NoName col_NoName dd_NoName q0_NoName q1_NoName q2_NoName q3_NoName q5_NoName "ValueError.__new__")) (sa_NoName : PySem.W.findIn K (.ref C_NoName) "__setattr__" = some (some (.builtin "object.__setattr__"))) (ex_NoName : PySem.W.subIn K (.ref C_NoName) (.type "BaseException") = some true) (ty_NoName : PySem.W.typeIn K (.ref C_NoName) = some (.type "type")) (kc_NoName : PySem.W.keepIn K (.ref C_NoName) = true) (ga_NoName : PySem.W.findIn K (.ref C_NoName) "__getattribute__" = some (some (.builtin "BaseException.__getattribute__"))) (gg_NoName : PySem.W.findIn K (.ref C_NoName) "__getattr__" = some none) (hd_NoName : PySem.W.hasDictIn K C_NoName = true) (ha_NoName : PySem.W.findIn K (.ref C_NoName) "__class__" = some (some (.builtin "object.__class__"))) (hm_NoName : PySem.W.mroIn K C_NoName (.type "object") = some true) (ii_NoName : PySem.W.findIn K (.ref C_NoName) "__init__" = some (some (.ref I_NoName))) (it_NoName : PySem.W.typeIn K (.ref I_NoName) = some (.type "function")) (il_NoName : K.lookup I_NoName = some ⟨ioc_NoName, iod_NoName, .func (PySem.W.fnOf "__init__" "NoName.__init__" (defArgs s_NoName) (defBody s_NoName) (defScope s_NoName) .none ikV_NoName idc_NoName ipm_NoName ian_NoName icd_NoName ict_NoName), isl_NoName⟩) (ic_NoName : PySem.W.codeIn K icd_NoName "NoName.__init__" = true) (ik_NoName : PySem.W.keepIn K (.ref I_NoName) = true) (xL_TooLong : K.lookup C_TooLong = some (excClassObj nm_TooLong qn_TooLong C_TooLong N_TooLong bz_TooLong [.ref C_MeetError, .type "ValueError", .type "Exception", .type "BaseException", .type "object"] true sn_TooLong sub_TooLong ab_TooLong col_TooLong dd_TooLong q0_TooLong q1_TooLong q2_TooLong q3_TooLong q5_TooLong "ValueError.__new__")) (sa_TooLong : PySem.W.findIn K (.ref C_TooLong) "__setattr__" = some (some (.builtin "object.__setattr__"))) (ex_TooLong : PySem.W.subIn K (.ref C_TooLong) (.type "BaseException") = some true) (ty_TooLong : PySem.W.typeIn K (.ref C_TooLong) = some (.type "type")) (kc_TooLong : PySem.W.keepIn K (.ref C_TooLong) = true) (ga_TooLong : PySem.W.findIn K (.ref C_TooLong) "__getattribute__" = some (some (.builtin "BaseException.__getattribute__"))) (gg_TooLong : PySem.W.findIn K (.ref C_TooLong) "__getattr__" = some none) (hd_TooLong : PySem.W.hasDictIn K C_TooLong = true) (ha_TooLong : PySem.W.findIn K (.ref C_TooLong) "__class__" = some (some (.builtin "object.__class__"))) (hm_TooLong : PySem.W.mroIn K C_TooLong (.type "object") = some true) (ii_TooLong : PySem.W.findIn K (.ref C_TooLong) "__init__" = some (some (.ref I_TooLong))) (it_TooLong : PySem.W.typeIn K (.ref I_TooLong) = some (.type "function")) (il_TooLong : K.lookup I_TooLong = some ⟨ioc_TooLong, iod_TooLong, .func (PySem.W.fnOf "__init__" "TooLong.__init__" (defArgs s_TooLong) (defBody s_TooLong) (defScope s_TooLong) .none ikV_TooLong idc_TooLong ipm_TooLong ian_TooLong icd_TooLong ict_TooLong), isl_TooLong⟩) (ic_TooLong : PySem.W.codeIn K icd_TooLong "TooLong.__init__" = true) (ik_TooLong : PySem.W.keepIn K (.ref I_TooLong) = true) (q_NoCut : PySem.W.excIn K C_NoCut veT "ValueError.__new__" = true) (ex_NoCut : PySem.W.subIn K (.ref C_NoCut) (.type "BaseException") = some true) (ty_NoCut : PySem.W.typeIn K (.ref C_NoCut) = some (.type "type")) (kc_NoCut : PySem.W.keepIn K (.ref C_NoCut) = true) (ga_NoCut : PySem.W.findIn K (.ref C_NoCut) "__getattribute__" = some (some (.builtin "BaseException.__getattribute__"))) (gg_NoCut : PySem.W.findIn K (.ref C_NoCut) "__getattr__" = some none) (hd_NoCut : PySem.W.hasDictIn K C_NoCut = true) (ha_NoCut : PySem.W.findIn K (.ref C_NoCut) "__class__" = some (some (.builtin "object.__class__"))) (hm_NoCut : PySem.W.mroIn K C_NoCut (.type "object") = some true) (q_NotApart : PySem.W.excIn K C_NotApart veT "ValueError.__new__" = true) (ex_NotApart : PySem.W.subIn K (.ref C_NotApart) (.type "BaseException") = some true) (ty_NotApart : PySem.W.typeIn K (.ref C_NotApart) = some (.type "type")) (kc_NotApart : PySem.W.keepIn K (.ref C_NotApart) = true) (ga_NotApart : PySem.W.findIn K (.ref C_NotApart) "__getattribute__" = some (some (.builtin "BaseException.__getattribute__"))) (gg_NotApart : PySem.W.findIn K (.ref C_NotApart) "__getattr__" = some none) (hd_NotApart : PySem.W.hasDictIn K C_NotApart = true) (ha_NotApart : PySem.W.findIn K (.ref C_NotApart) "__class__" = some (some (.builtin "object.__class__"))) (hm_NotApart : PySem.W.mroIn K C_NotApart (.type "object") = some true) (q_NotLone : PySem.W.excIn K C_NotLone veT "ValueError.__new__" = true) (ex_NotLone : PySem.W.subIn K (.ref C_NotLone) (.type "BaseException") = some true) (ty_NotLone : PySem.W.typeIn K (.ref C_NotLone) = some (.type "type")) (kc_NotLone : PySem.W.keepIn K (.ref C_NotLone) = true) (ga_NotLone : PySem.W.findIn K (.ref C_NotLone) "__getattribute__" = some (some (.builtin "BaseException.__getattribute__"))) (gg_NotLone : PySem.W.findIn K (.ref C_NotLone) "__getattr__" = some none) (hd_NotLone : PySem.W.hasDictIn K C_NotLone = true) (ha_NotLone : PySem.W.findIn K (.ref C_NotLone) "__class__" = some (some (.builtin "object.__class__"))) (hm_NotLone : PySem.W.mroIn K C_NotLone (.type "object") = some true) (q_NoRow : PySem.W.excIn K C_NoRow veT "ValueError.__new__" = true) (ex_NoRow : PySem.W.subIn K (.ref C_NoRow) (.type "BaseException") = some true) (ty_NoRow : PySem.W.typeIn K (.ref C_NoRow) = some (.type "type")) (kc_NoRow : PySem.W.keepIn K (.ref C_NoRow) = true) (ga_NoRow : PySem.W.findIn K (.ref C_NoRow) "__getattribute__" = some (some (.builtin "BaseException.__getattribute__"))) (gg_NoRow : PySem.W.findIn K (.ref C_NoRow) "__getattr__" = some none) (hd_NoRow : PySem.W.hasDictIn K C_NoRow = true) (ha_NoRow : PySem.W.findIn K (.ref C_NoRow) "__class__" = some (some (.builtin "object.__class__"))) (hm_NoRow : PySem.W.mroIn K C_NoRow (.type "object") = some true) (sx_NoYard_MeetError : PySem.W.subIn K (.ref C_NoYard) (.ref C_MeetError) = some true) (sx_NoWord_MeetError : PySem.W.subIn K (.ref C_NoWord) (.ref C_MeetError) = some true) (sx_NoDrawing_MeetError : PySem.W.subIn K (.ref C_NoDrawing) (.ref C_MeetError) = some true) (sx_NoText_MeetError : PySem.W.subIn K (.ref C_NoText) (.ref C_MeetError) = some true) (sx_NoDeed_MeetError : PySem.W.subIn K (.ref C_NoDeed) (.ref C_MeetError) = some true) (sx_NoPaper_MeetError : PySem.W.subIn K (.ref C_NoPaper) (.ref C_MeetError) = some true) (sx_Twice_MeetError : PySem.W.subIn K (.ref C_Twice) (.ref C_MeetError) = some true) (sx_NoName_MeetError : PySem.W.subIn K (.ref C_NoName) (.ref C_MeetError) = some true) (sx_TooLong_MeetError : PySem.W.subIn K (.ref C_TooLong) (.ref C_MeetError) = some true) (sx_NoCut_MeetError : PySem.W.subIn K (.ref C_NoCut) (.ref C_MeetError) = some true) (sx_NotApart_MeetError : PySem.W.subIn K (.ref C_NotApart) (.ref C_MeetError) = some true) (sx_NotLone_MeetError : PySem.W.subIn K (.ref C_NotLone) (.ref C_MeetError) = some true) (sx_NoRow_MeetError : PySem.W.subIn K (.ref C_NoRow) (.ref C_MeetError) = some true) (at_NoDeed_at : PySem.W.findIn K (.ref C_NoDeed) "at" = some none) (at_NoDrawing_at : PySem.W.findIn K (.ref C_NoDrawing) "at" = some none) (at_NoDrawing_word : PySem.W.findIn K (.ref C_NoDrawing) "word" = some none) (at_NoName_name : PySem.W.findIn K (.ref C_NoName) "name" = some none) (at_NoPaper_word : PySem.W.findIn K (.ref C_NoPaper) "word" = some none) (at_NoText_row : PySem.W.findIn K (.ref C_NoText) "row" = some none) (at_NoWord_at : PySem.W.findIn K (.ref C_NoWord) "at" = some none) (at_NoYard_at : PySem.W.findIn K (.ref C_NoYard) "at" = some none) (at_TooLong_name : PySem.W.findIn K (.ref C_TooLong) "name" = some none) (at_Twice_name : PySem.W.findIn K (.ref C_Twice) "name" = some none) (yc_MeetError : PySem.W.isClsIn K C_MeetError = true) (yt_MeetError : PySem.W.typeIn K (.ref C_MeetError) = some (.type "type")) (yc_NoCut : PySem.W.isClsIn K C_NoCut = true) (yt_NoCut : PySem.W.typeIn K (.ref C_NoCut) = some (.type "type")) (yc_NoDeed : PySem.W.isClsIn K C_NoDeed = true) (yt_NoDeed : PySem.W.typeIn K (.ref C_NoDeed) = some (.type "type")) (yc_NoDrawing : PySem.W.isClsIn K C_NoDrawing = true) (yt_NoDrawing : PySem.W.typeIn K (.ref C_NoDrawing) = some (.type "type")) (yc_NoName : PySem.W.isClsIn K C_NoName = true) (yt_NoName : PySem.W.typeIn K (.ref C_NoName) = some (.type "type")) (yc_NoPaper : PySem.W.isClsIn K C_NoPaper = true) (yt_NoPaper : PySem.W.typeIn K (.ref C_NoPaper) = some (.type "type")) (yc_NoRow : PySem.W.isClsIn K C_NoRow = true) (yt_NoRow : PySem.W.typeIn K (.ref C_NoRow) = some (.type "type")) (yc_NoText : PySem.W.isClsIn K C_NoText = true) (yt_NoText : PySem.W.typeIn K (.ref C_NoText) = some (.type "type")) (yc_NoWord : PySem.W.isClsIn K C_NoWord = true) (yt_NoWord : PySem.W.typeIn K (.ref C_NoWord) = some (.type "type")) (yc_NoYard : PySem.W.isClsIn K C_NoYard = true) (yt_NoYard : PySem.W.typeIn K (.ref C_NoYard) = some (.type "type")) (yc_NotApart : PySem.W.isClsIn K C_NotApart = true) (yt_NotApart : PySem.W.typeIn K (.ref C_NotApart) = some (.type "type")) (yc_NotLone : PySem.W.isClsIn K C_NotLone = true) (yt_NotLone : PySem.W.typeIn K (.ref C_NotLone) = some (.type "type")) (yc_TooLong : PySem.W.isClsIn K C_TooLong = true) (yt_TooLong : PySem.W.typeIn K (.ref C_TooLong) = some (.type "type")) (yc_Twice : PySem.W.isClsIn K C_Twice = true) (yt_Twice : PySem.W.typeIn K (.ref C_Twice) = some (.type "type")) (ys_NoCut_MeetError : PySem.W.subIn K (.ref C_NoCut) (.ref C_MeetError) = some true) (yn_NoCut_MeetError : (Value.ref C_NoCut == Value.ref C_MeetError) = false) (ys_NoCut_NoDeed : PySem.W.subIn K (.ref C_NoCut) (.ref C_NoDeed) = some false) (yn_NoCut_NoDeed : (Value.ref C_NoCut == Value.ref C_NoDeed) = false) (ys_NoCut_NoDrawing : PySem.W.subIn K (.ref C_NoCut) (.ref C_NoDrawing) = some false) (yn_NoCut_NoDrawing : (Value.ref C_NoCut == Value.ref C_NoDrawing) = false) (ys_NoCut_NoName : PySem.W.subIn K (.ref C_NoCut) (.ref C_NoName) = some false) (yn_NoCut_NoName : (Value.ref C_NoCut == Value.ref C_NoName) = false) (ys_NoCut_NoPaper : PySem.W.subIn K (.ref C_NoCut) (.ref C_NoPaper) = some false) (yn_NoCut_NoPaper : (Value.ref C_NoCut == Value.ref C_NoPaper) = false) (ys_NoCut_NoRow : PySem.W.subIn K (.ref C_NoCut) (.ref C_NoRow) = some false) (yn_NoCut_NoRow : (Value.ref C_NoCut == Value.ref C_NoRow) = false) (ys_NoCut_NoText : PySem.W.subIn K (.ref C_NoCut) (.ref C_NoText) = some false) (yn_NoCut_NoText : (Value.ref C_NoCut == Value.ref C_NoText) = false) (ys_NoCut_NoWord : PySem.W.subIn K (.ref C_NoCut) (.ref C_NoWord) = some false) (yn_NoCut_NoWord : (Value.ref C_NoCut == Value.ref C_NoWord) = false) (ys_NoCut_NoYard : PySem.W.subIn K (.ref C_NoCut) (.ref C_NoYard) = some false) (yn_NoCut_NoYard : (Value.ref C_NoCut == Value.ref C_NoYard) = false) (ys_NoCut_NotApart : PySem.W.subIn K (.ref C_NoCut) (.ref C_NotApart) = some false) (yn_NoCut_NotApart : (Value.ref C_NoCut == Value.ref C_NotApart) = false) (ys_NoCut_NotLone : PySem.W.subIn K (.ref C_NoCut) (.ref C_NotLone) = some false) (yn_NoCut_NotLone : (Value.ref C_NoCut == Value.ref C_NotLone) = false) (ys_NoCut_TooLong : PySem.W.subIn K (.ref C_NoCut) (.ref C_TooLong) = some false) (yn_NoCut_TooLong : (Value.ref C_NoCut == Value.ref C_TooLong) = false) (ys_NoCut_Twice : PySem.W.subIn K (.ref C_NoCut) (.ref C_Twice) = some false) (yn_NoCut_Twice : (Value.ref C_NoCut == Value.ref C_Twice) = false) (ys_NoCut_ValueError : PySem.W.subIn K (.ref C_NoCut) (.type "ValueError") = some true) (ys_NoDeed_MeetError : PySem.W.subIn K (.ref C_NoDeed) (.ref C_MeetError) = some true) (yn_NoDeed_MeetError : (Value.ref C_NoDeed == Value.ref C_MeetError) = false) (ys_NoDeed_NoCut : PySem.W.subIn K (.ref C_NoDeed) (.ref C_NoCut) = some false) (yn_NoDeed_NoCut : (Value.ref C_NoDeed == Value.ref C_NoCut) = false) (ys_NoDeed_NoDrawing : PySem.W.subIn K (.ref C_NoDeed) (.ref C_NoDrawing) = some false) (yn_NoDeed_NoDrawing : (Value.ref C_NoDeed == Value.ref C_NoDrawing) = false) (ys_NoDeed_NoName : PySem.W.subIn K (.ref C_NoDeed) (.ref C_NoName) = some false) (yn_NoDeed_NoName : (Value.ref C_NoDeed == Value.ref C_NoName) = false) (ys_NoDeed_NoPaper : PySem.W.subIn K (.ref C_NoDeed) (.ref C_NoPaper) = some false) (yn_NoDeed_NoPaper : (Value.ref C_NoDeed == Value.ref C_NoPaper) = false) (ys_NoDeed_NoRow : PySem.W.subIn K (.ref C_NoDeed) (.ref C_NoRow) = some false) (yn_NoDeed_NoRow : (Value.ref C_NoDeed == Value.ref C_NoRow) = false) (ys_NoDeed_NoText : PySem.W.subIn K (.ref C_NoDeed) (.ref C_NoText) = some false) (yn_NoDeed_NoText : (Value.ref C_NoDeed == Value.ref C_NoText) = false) (ys_NoDeed_NoWord : PySem.W.subIn K (.ref C_NoDeed) (.ref C_NoWord) = some false) (yn_NoDeed_NoWord : (Value.ref C_NoDeed == Value.ref C_NoWord) = false) (ys_NoDeed_NoYard : PySem.W.subIn K (.ref C_NoDeed) (.ref C_NoYard) = some false) (yn_NoDeed_NoYard : (Value.ref C_NoDeed == Value.ref C_NoYard) = false) (ys_NoDeed_NotApart : PySem.W.subIn K (.ref C_NoDeed) (.ref C_NotApart) = some false) (yn_NoDeed_NotApart : (Value.ref C_NoDeed == Value.ref C_NotApart) = false) (ys_NoDeed_NotLone : PySem.W.subIn K (.ref C_NoDeed) (.ref C_NotLone) = some false) (yn_NoDeed_NotLone : (Value.ref C_NoDeed == Value.ref C_NotLone) = false) (ys_NoDeed_TooLong : PySem.W.subIn K (.ref C_NoDeed) (.ref C_TooLong) = some false) (yn_NoDeed_TooLong : (Value.ref C_NoDeed == Value.ref C_TooLong) = false) (ys_NoDeed_Twice : PySem.W.subIn K (.ref C_NoDeed) (.ref C_Twice) = some false) (yn_NoDeed_Twice : (Value.ref C_NoDeed == Value.ref C_Twice) = false) (ys_NoDeed_ValueError : PySem.W.subIn K (.ref C_NoDeed) (.type "ValueError") = some true) (ys_NoDrawing_MeetError : PySem.W.subIn K (.ref C_NoDrawing) (.ref C_MeetError) = some true) (yn_NoDrawing_MeetError : (Value.ref C_NoDrawing == Value.ref C_MeetError) = false) (ys_NoDrawing_NoCut : PySem.W.subIn K (.ref C_NoDrawing) (.ref C_NoCut) = some false) (yn_NoDrawing_NoCut : (Value.ref C_NoDrawing == Value.ref C_NoCut) = false) (ys_NoDrawing_NoDeed : PySem.W.subIn K (.ref C_NoDrawing) (.ref C_NoDeed) = some false) (yn_NoDrawing_NoDeed : (Value.ref C_NoDrawing == Value.ref C_NoDeed) = false) (ys_NoDrawing_NoName : PySem.W.subIn K (.ref C_NoDrawing) (.ref C_NoName) = some false) (yn_NoDrawing_NoName : (Value.ref C_NoDrawing == Value.ref C_NoName) = false) (ys_NoDrawing_NoPaper : PySem.W.subIn K (.ref C_NoDrawing) (.ref C_NoPaper) = some false) (yn_NoDrawing_NoPaper : (Value.ref C_NoDrawing == Value.ref C_NoPaper) = false) (ys_NoDrawing_NoRow : PySem.W.subIn K (.ref C_NoDrawing) (.ref C_NoRow) = some false) (yn_NoDrawing_NoRow : (Value.ref C_NoDrawing == Value.ref C_NoRow) = false) (ys_NoDrawing_NoText : PySem.W.subIn K (.ref C_NoDrawing) (.ref C_NoText) = some false) (yn_NoDrawing_NoText : (Value.ref C_NoDrawing == Value.ref C_NoText) = false) (ys_NoDrawing_NoWord : PySem.W.subIn K (.ref C_NoDrawing) (.ref C_NoWord) = some false) (yn_NoDrawing_NoWord : (Value.ref C_NoDrawing == Value.ref C_NoWord) = false) (ys_NoDrawing_NoYard : PySem.W.subIn K (.ref C_NoDrawing) (.ref C_NoYard) = some false) (yn_NoDrawing_NoYard : (Value.ref C_NoDrawing == Value.ref C_NoYard) = false) (ys_NoDrawing_NotApart : PySem.W.subIn K (.ref C_NoDrawing) (.ref C_NotApart) = some false) (yn_NoDrawing_NotApart : (Value.ref C_NoDrawing == Value.ref C_NotApart) = false) (ys_NoDrawing_NotLone : PySem.W.subIn K (.ref C_NoDrawing) (.ref C_NotLone) = some false) (yn_NoDrawing_NotLone : (Value.ref C_NoDrawing == Value.ref C_NotLone) = false) (ys_NoDrawing_TooLong : PySem.W.subIn K (.ref C_NoDrawing) (.ref C_TooLong) = some false) (yn_NoDrawing_TooLong : (Value.ref C_NoDrawing == Value.ref C_TooLong) = false) (ys_NoDrawing_Twice : PySem.W.subIn K (.ref C_NoDrawing) (.ref C_Twice) = some false) (yn_NoDrawing_Twice : (Value.ref C_NoDrawing == Value.ref C_Twice) = false) (ys_NoDrawing_ValueError : PySem.W.subIn K (.ref C_NoDrawing) (.type "ValueError") = some true) (ys_NoName_MeetError : PySem.W.subIn K (.ref C_NoName) (.ref C_MeetError) = some true) (yn_NoName_MeetError : (Value.ref C_NoName == Value.ref C_MeetError) = false) (ys_NoName_NoCut : PySem.W.subIn K (.ref C_NoName) (.ref C_NoCut) = some false) (yn_NoName_NoCut : (Value.ref C_NoName == Value.ref C_NoCut) = false) (ys_NoName_NoDeed : PySem.W.subIn K (.ref C_NoName) (.ref C_NoDeed) = some false) (yn_NoName_NoDeed : (Value.ref C_NoName == Value.ref C_NoDeed) = false) (ys_NoName_NoDrawing : PySem.W.subIn K (.ref C_NoName) (.ref C_NoDrawing) = some false) (yn_NoName_NoDrawing : (Value.ref C_NoName == Value.ref C_NoDrawing) = false) (ys_NoName_NoPaper : PySem.W.subIn K (.ref C_NoName) (.ref C_NoPaper) = some false) (yn_NoName_NoPaper : (Value.ref C_NoName == Value.ref C_NoPaper) = false) (ys_NoName_NoRow : PySem.W.subIn K (.ref C_NoName) (.ref C_NoRow) = some false) (yn_NoName_NoRow : (Value.ref C_NoName == Value.ref C_NoRow) = false) (ys_NoName_NoText : PySem.W.subIn K (.ref C_NoName) (.ref C_NoText) = some false) (yn_NoName_NoText : (Value.ref C_NoName == Value.ref C_NoText) = false) (ys_NoName_NoWord : PySem.W.subIn K (.ref C_NoName) (.ref C_NoWord) = some false) (yn_NoName_NoWord : (Value.ref C_NoName == Value.ref C_NoWord) = false) (ys_NoName_NoYard : PySem.W.subIn K (.ref C_NoName) (.ref C_NoYard) = some false) (yn_NoName_NoYard : (Value.ref C_NoName == Value.ref C_NoYard) = false) (ys_NoName_NotApart : PySem.W.subIn K (.ref C_NoName) (.ref C_NotApart) = some false) (yn_NoName_NotApart : (Value.ref C_NoName == Value.ref C_NotApart) = false) (ys_NoName_NotLone : PySem.W.subIn K (.ref C_NoName) (.ref C_NotLone) = some false) (yn_NoName_NotLone : (Value.ref C_NoName == Value.ref C_NotLone) = false) (ys_NoName_TooLong : PySem.W.subIn K (.ref C_NoName) (.ref C_TooLong) = some false) (yn_NoName_TooLong : (Value.ref C_NoName == Value.ref C_TooLong) = false) (ys_NoName_Twice : PySem.W.subIn K (.ref C_NoName) (.ref C_Twice) = some false) (yn_NoName_Twice : (Value.ref C_NoName == Value.ref C_Twice) = false) (ys_NoName_ValueError : PySem.W.subIn K (.ref C_NoName) (.type "ValueError") = some true) (ys_NoPaper_MeetError : PySem.W.subIn K (.ref C_NoPaper) (.ref C_MeetError) = some true) (yn_NoPaper_MeetError : (Value.ref C_NoPaper == Value.ref C_MeetError) = false) (ys_NoPaper_NoCut : PySem.W.subIn K (.ref C_NoPaper) (.ref C_NoCut) = some false) (yn_NoPaper_NoCut : (Value.ref C_NoPaper == Value.ref C_NoCut) = false) (ys_NoPaper_NoDeed : PySem.W.subIn K (.ref C_NoPaper) (.ref C_NoDeed) = some false) (yn_NoPaper_NoDeed : (Value.ref C_NoPaper == Value.ref C_NoDeed) = false) (ys_NoPaper_NoDrawing : PySem.W.subIn K (.ref C_NoPaper) (.ref C_NoDrawing) = some false) (yn_NoPaper_NoDrawing : (Value.ref C_NoPaper == Value.ref C_NoDrawing) = false) (ys_NoPaper_NoName : PySem.W.subIn K (.ref C_NoPaper) (.ref C_NoName) = some false) (yn_NoPaper_NoName : (Value.ref C_NoPaper == Value.ref C_NoName) = false) (ys_NoPaper_NoRow : PySem.W.subIn K (.ref C_NoPaper) (.ref C_NoRow) = some false) (yn_NoPaper_NoRow : (Value.ref C_NoPaper == Value.ref C_NoRow) = false) (ys_NoPaper_NoText : PySem.W.subIn K (.ref C_NoPaper) (.ref C_NoText) = some false) (yn_NoPaper_NoText : (Value.ref C_NoPaper == Value.ref C_NoText) = false) (ys_NoPaper_NoWord : PySem.W.subIn K (.ref C_NoPaper) (.ref C_NoWord) = some false) (yn_NoPaper_NoWord : (Value.ref C_NoPaper == Value.ref C_NoWord) = false) (ys_NoPaper_NoYard : PySem.W.subIn K (.ref C_NoPaper) (.ref C_NoYard) = some false) (yn_NoPaper_NoYard : (Value.ref C_NoPaper == Value.ref C_NoYard) = false) (ys_NoPaper_NotApart : PySem.W.subIn K (.ref C_NoPaper) (.ref C_NotApart) = some false) (yn_NoPaper_NotApart : (Value.ref C_NoPaper == Value.ref C_NotApart) = false) (ys_NoPaper_NotLone : PySem.W.subIn K (.ref C_NoPaper) (.ref C_NotLone) = some false) (yn_NoPaper_NotLone : (Value.ref C_NoPaper == Value.ref C_NotLone) = false) (ys_NoPaper_TooLong : PySem.W.subIn K (.ref C_NoPaper) (.ref C_TooLong) = some false) (yn_NoPaper_TooLong : (Value.ref C_NoPaper == Value.ref C_TooLong) = false) (ys_NoPaper_Twice : PySem.W.subIn K (.ref C_NoPaper) (.ref C_Twice) = some false) (yn_NoPaper_Twice : (Value.ref C_NoPaper == Value.ref C_Twice) = false) (ys_NoPaper_ValueError : PySem.W.subIn K (.ref C_NoPaper) (.type "ValueError") = some true) (ys_NoRow_MeetError : PySem.W.subIn K (.ref C_NoRow) (.ref C_MeetError) = some true) (yn_NoRow_MeetError : (Value.ref C_NoRow == Value.ref C_MeetError) = false) (ys_NoRow_NoCut : PySem.W.subIn K (.ref C_NoRow) (.ref C_NoCut) = some false) (yn_NoRow_NoCut : (Value.ref C_NoRow == Value.ref C_NoCut) = false) (ys_NoRow_NoDeed : PySem.W.subIn K (.ref C_NoRow) (.ref C_NoDeed) = some false) (yn_NoRow_NoDeed : (Value.ref C_NoRow == Value.ref C_NoDeed) = false) (ys_NoRow_NoDrawing : PySem.W.subIn K (.ref C_NoRow) (.ref C_NoDrawing) = some false) (yn_NoRow_NoDrawing : (Value.ref C_NoRow == Value.ref C_NoDrawing) = false) (ys_NoRow_NoName : PySem.W.subIn K (.ref C_NoRow) (.ref C_NoName) = some false) (yn_NoRow_NoName : (Value.ref C_NoRow == Value.ref C_NoName) = false) (ys_NoRow_NoPaper : PySem.W.subIn K (.ref C_NoRow) (.ref C_NoPaper) = some false) (yn_NoRow_NoPaper : (Value.ref C_NoRow == Value.ref C_NoPaper) = false) (ys_NoRow_NoText : PySem.W.subIn K (.ref C_NoRow) (.ref C_NoText) = some false) (yn_NoRow_NoText : (Value.ref C_NoRow == Value.ref C_NoText) = false) (ys_NoRow_NoWord : PySem.W.subIn K (.ref C_NoRow) (.ref C_NoWord) = some false) (yn_NoRow_NoWord : (Value.ref C_NoRow == Value.ref C_NoWord) = false) (ys_NoRow_NoYard : PySem.W.subIn K (.ref C_NoRow) (.ref C_NoYard) = some false) (yn_NoRow_NoYard : (Value.ref C_NoRow == Value.ref C_NoYard) = false) (ys_NoRow_NotApart : PySem.W.subIn K (.ref C_NoRow) (.ref C_NotApart) = some false) (yn_NoRow_NotApart : (Value.ref C_NoRow == Value.ref C_NotApart) = false) (ys_NoRow_NotLone : PySem.W.subIn K (.ref C_NoRow) (.ref C_NotLone) = some false) (yn_NoRow_NotLone : (Value.ref C_NoRow == Value.ref C_NotLone) = false) (ys_NoRow_TooLong : PySem.W.subIn K (.ref C_NoRow) (.ref C_TooLong) = some false) (yn_NoRow_TooLong : (Value.ref C_NoRow == Value.ref C_TooLong) = false) (ys_NoRow_Twice : PySem.W.subIn K (.ref C_NoRow) (.ref C_Twice) = some false) (yn_NoRow_Twice : (Value.ref C_NoRow == Value.ref C_Twice) = false) (ys_NoRow_ValueError : PySem.W.subIn K (.ref C_NoRow) (.type "ValueError") = some true) (ys_NoText_MeetError : PySem.W.subIn K (.ref C_NoText) (.ref C_MeetError) = some true) (yn_NoText_MeetError : (Value.ref C_NoText == Value.ref C_MeetError) = false) (ys_NoText_NoCut : PySem.W.subIn K (.ref C_NoText) (.ref C_NoCut) = some false) (yn_NoText_NoCut : (Value.ref C_NoText == Value.ref C_NoCut) = false) (ys_NoText_NoDeed : PySem.W.subIn K (.ref C_NoText) (.ref C_NoDeed) = some false) (yn_NoText_NoDeed : (Value.ref C_NoText == Value.ref C_NoDeed) = false) (ys_NoText_NoDrawing : PySem.W.subIn K (.ref C_NoText) (.ref C_NoDrawing) = some false) (yn_NoText_NoDrawing : (Value.ref C_NoText == Value.ref C_NoDrawing) = false) (ys_NoText_NoName : PySem.W.subIn K (.ref C_NoText) (.ref C_NoName) = some false) (yn_NoText_NoName : (Value.ref C_NoText == Value.ref C_NoName) = false) (ys_NoText_NoPaper : PySem.W.subIn K (.ref C_NoText) (.ref C_NoPaper) = some false) (yn_NoText_NoPaper : (Value.ref C_NoText == Value.ref C_NoPaper) = false) (ys_NoText_NoRow : PySem.W.subIn K (.ref C_NoText) (.ref C_NoRow) = some false) (yn_NoText_NoRow : (Value.ref C_NoText == Value.ref C_NoRow) = false) (ys_NoText_NoWord : PySem.W.subIn K (.ref C_NoText) (.ref C_NoWord) = some false) (yn_NoText_NoWord : (Value.ref C_NoText == Value.ref C_NoWord) = false) (ys_NoText_NoYard : PySem.W.subIn K (.ref C_NoText) (.ref C_NoYard) = some false) (yn_NoText_NoYard : (Value.ref C_NoText == Value.ref C_NoYard) = false) (ys_NoText_NotApart : PySem.W.subIn K (.ref C_NoText) (.ref C_NotApart) = some false) (yn_NoText_NotApart : (Value.ref C_NoText == Value.ref C_NotApart) = false) (ys_NoText_NotLone : PySem.W.subIn K (.ref C_NoText) (.ref C_NotLone) = some false) (yn_NoText_NotLone : (Value.ref C_NoText == Value.ref C_NotLone) = false) (ys_NoText_TooLong : PySem.W.subIn K (.ref C_NoText) (.ref C_TooLong) = some false) (yn_NoText_TooLong : (Value.ref C_NoText == Value.ref C_TooLong) = false) (ys_NoText_Twice : PySem.W.subIn K (.ref C_NoText) (.ref C_Twice) = some false) (yn_NoText_Twice : (Value.ref C_NoText == Value.ref C_Twice) = false) (ys_NoText_ValueError : PySem.W.subIn K (.ref C_NoText) (.type "ValueError") = some true) (ys_NoWord_MeetError : PySem.W.subIn K (.ref C_NoWord) (.ref C_MeetError) = some true) (yn_NoWord_MeetError : (Value.ref C_NoWord == Value.ref C_MeetError) = false) (ys_NoWord_NoCut : PySem.W.subIn K (.ref C_NoWord) (.ref C_NoCut) = some false) (yn_NoWord_NoCut : (Value.ref C_NoWord == Value.ref C_NoCut) = false) (ys_NoWord_NoDeed : PySem.W.subIn K (.ref C_NoWord) (.ref C_NoDeed) = some false) (yn_NoWord_NoDeed : (Value.ref C_NoWord == Value.ref C_NoDeed) = false) (ys_NoWord_NoDrawing : PySem.W.subIn K (.ref C_NoWord) (.ref C_NoDrawing) = some false) (yn_NoWord_NoDrawing : (Value.ref C_NoWord == Value.ref C_NoDrawing) = false) (ys_NoWord_NoName : PySem.W.subIn K (.ref C_NoWord) (.ref C_NoName) = some false) (yn_NoWord_NoName : (Value.ref C_NoWord == Value.ref C_NoName) = false) (ys_NoWord_NoPaper : PySem.W.subIn K (.ref C_NoWord) (.ref C_NoPaper) = some false) (yn_NoWord_NoPaper : (Value.ref C_NoWord == Value.ref C_NoPaper) = false) (ys_NoWord_NoRow : PySem.W.subIn K (.ref C_NoWord) (.ref C_NoRow) = some false) (yn_NoWord_NoRow : (Value.ref C_NoWord == Value.ref C_NoRow) = false) (ys_NoWord_NoText : PySem.W.subIn K (.ref C_NoWord) (.ref C_NoText) = some false) (yn_NoWord_NoText : (Value.ref C_NoWord == Value.ref C_NoText) = false) (ys_NoWord_NoYard : PySem.W.subIn K (.ref C_NoWord) (.ref C_NoYard) = some false) (yn_NoWord_NoYard : (Value.ref C_NoWord == Value.ref C_NoYard) = false) (ys_NoWord_NotApart : PySem.W.subIn K (.ref C_NoWord) (.ref C_NotApart) = some false) (yn_NoWord_NotApart : (Value.ref C_NoWord == Value.ref C_NotApart) = false) (ys_NoWord_NotLone : PySem.W.subIn K (.ref C_NoWord) (.ref C_NotLone) = some false) (yn_NoWord_NotLone : (Value.ref C_NoWord == Value.ref C_NotLone) = false) (ys_NoWord_TooLong : PySem.W.subIn K (.ref C_NoWord) (.ref C_TooLong) = some false) (yn_NoWord_TooLong : (Value.ref C_NoWord == Value.ref C_TooLong) = false) (ys_NoWord_Twice : PySem.W.subIn K (.ref C_NoWord) (.ref C_Twice) = some false) (yn_NoWord_Twice : (Value.ref C_NoWord == Value.ref C_Twice) = false) (ys_NoWord_ValueError : PySem.W.subIn K (.ref C_NoWord) (.type "ValueError") = some true) (ys_NoYard_MeetError : PySem.W.subIn K (.ref C_NoYard) (.ref C_MeetError) = some true) (yn_NoYard_MeetError : (Value.ref C_NoYard == Value.ref C_MeetError) = false) (ys_NoYard_NoCut : PySem.W.subIn K (.ref C_NoYard) (.ref C_NoCut) = some false) (yn_NoYard_NoCut : (Value.ref C_NoYard == Value.ref C_NoCut) = false) (ys_NoYard_NoDeed : PySem.W.subIn K (.ref C_NoYard) (.ref C_NoDeed) = some false) (yn_NoYard_NoDeed : (Value.ref C_NoYard == Value.ref C_NoDeed) = false) (ys_NoYard_NoDrawing : PySem.W.subIn K (.ref C_NoYard) (.ref C_NoDrawing) = some false) (yn_NoYard_NoDrawing : (Value.ref C_NoYard == Value.ref C_NoDrawing) = false) (ys_NoYard_NoName : PySem.W.subIn K (.ref C_NoYard) (.ref C_NoName) = some false) (yn_NoYard_NoName : (Value.ref C_NoYard == Value.ref C_NoName) = false) (ys_NoYard_NoPaper : PySem.W.subIn K (.ref C_NoYard) (.ref C_NoPaper) = some false) (yn_NoYard_NoPaper : (Value.ref C_NoYard == Value.ref C_NoPaper) = false) (ys_NoYard_NoRow : PySem.W.subIn K (.ref C_NoYard) (.ref C_NoRow) = some false) (yn_NoYard_NoRow : (Value.ref C_NoYard == Value.ref C_NoRow) = false) (ys_NoYard_NoText : PySem.W.subIn K (.ref C_NoYard) (.ref C_NoText) = some false) (yn_NoYard_NoText : (Value.ref C_NoYard == Value.ref C_NoText) = false) (ys_NoYard_NoWord : PySem.W.subIn K (.ref C_NoYard) (.ref C_NoWord) = some false) (yn_NoYard_NoWord : (Value.ref C_NoYard == Value.ref C_NoWord) = false) (ys_NoYard_NotApart : PySem.W.subIn K (.ref C_NoYard) (.ref C_NotApart) = some false) (yn_NoYard_NotApart : (Value.ref C_NoYard == Value.ref C_NotApart) = false) (ys_NoYard_NotLone : PySem.W.subIn K (.ref C_NoYard) (.ref C_NotLone) = some false) (yn_NoYard_NotLone : (Value.ref C_NoYard == Value.ref C_NotLone) = false) (ys_NoYard_TooLong : PySem.W.subIn K (.ref C_NoYard) (.ref C_TooLong) = some false) (yn_NoYard_TooLong : (Value.ref C_NoYard == Value.ref C_TooLong) = false) (ys_NoYard_Twice : PySem.W.subIn K (.ref C_NoYard) (.ref C_Twice) = some false) (yn_NoYard_Twice : (Value.ref C_NoYard == Value.ref C_Twice) = false) (ys_NoYard_ValueError : PySem.W.subIn K (.ref C_NoYard) (.type "ValueError") = some true) (ys_NotApart_MeetError : PySem.W.subIn K (.ref C_NotApart) (.ref C_MeetError) = some true) (yn_NotApart_MeetError : (Value.ref C_NotApart == Value.ref C_MeetError) = false) (ys_NotApart_NoCut : PySem.W.subIn K (.ref C_NotApart) (.ref C_NoCut) = some false) (yn_NotApart_NoCut : (Value.ref C_NotApart == Value.ref C_NoCut) = false) (ys_NotApart_NoDeed : PySem.W.subIn K (.ref C_NotApart) (.ref C_NoDeed) = some false) (yn_NotApart_NoDeed : (Value.ref C_NotApart == Value.ref C_NoDeed) = false) (ys_NotApart_NoDrawing : PySem.W.subIn K (.ref C_NotApart) (.ref C_NoDrawing) = some false) (yn_NotApart_NoDrawing : (Value.ref C_NotApart == Value.ref C_NoDrawing) = false) (ys_NotApart_NoName : PySem.W.subIn K (.ref C_NotApart) (.ref C_NoName) = some false) (yn_NotApart_NoName : (Value.ref C_NotApart == Value.ref C_NoName) = false) (ys_NotApart_NoPaper : PySem.W.subIn K (.ref C_NotApart) (.ref C_NoPaper) = some false) (yn_NotApart_NoPaper : (Value.ref C_NotApart == Value.ref C_NoPaper) = false) (ys_NotApart_NoRow : PySem.W.subIn K (.ref C_NotApart) (.ref C_NoRow) = some false) (yn_NotApart_NoRow : (Value.ref C_NotApart == Value.ref C_NoRow) = false) (ys_NotApart_NoText : PySem.W.subIn K (.ref C_NotApart) (.ref C_NoText) = some false) (yn_NotApart_NoText : (Value.ref C_NotApart == Value.ref C_NoText) = false) (ys_NotApart_NoWord : PySem.W.subIn K (.ref C_NotApart) (.ref C_NoWord) = some false) (yn_NotApart_NoWord : (Value.ref C_NotApart == Value.ref C_NoWord) = false) (ys_NotApart_NoYard : PySem.W.subIn K (.ref C_NotApart) (.ref C_NoYard) = some false) (yn_NotApart_NoYard : (Value.ref C_NotApart == Value.ref C_NoYard) = false) (ys_NotApart_NotLone : PySem.W.subIn K (.ref C_NotApart) (.ref C_NotLone) = some false) (yn_NotApart_NotLone : (Value.ref C_NotApart == Value.ref C_NotLone) = false) (ys_NotApart_TooLong : PySem.W.subIn K (.ref C_NotApart) (.ref C_TooLong) = some false) (yn_NotApart_TooLong : (Value.ref C_NotApart == Value.ref C_TooLong) = false) (ys_NotApart_Twice : PySem.W.subIn K (.ref C_NotApart) (.ref C_Twice) = some false) (yn_NotApart_Twice : (Value.ref C_NotApart == Value.ref C_Twice) = false) (ys_NotApart_ValueError : PySem.W.subIn K (.ref C_NotApart) (.type "ValueError") = some true) (ys_NotLone_MeetError : PySem.W.subIn K (.ref C_NotLone) (.ref C_MeetError) = some true) (yn_NotLone_MeetError : (Value.ref C_NotLone == Value.ref C_MeetError) = false) (ys_NotLone_NoCut : PySem.W.subIn K (.ref C_NotLone) (.ref C_NoCut) = some false) (yn_NotLone_NoCut : (Value.ref C_NotLone == Value.ref C_NoCut) = false) (ys_NotLone_NoDeed : PySem.W.subIn K (.ref C_NotLone) (.ref C_NoDeed) = some false) (yn_NotLone_NoDeed : (Value.ref C_NotLone == Value.ref C_NoDeed) = false) (ys_NotLone_NoDrawing : PySem.W.subIn K (.ref C_NotLone) (.ref C_NoDrawing) = some false) (yn_NotLone_NoDrawing : (Value.ref C_NotLone == Value.ref C_NoDrawing) = false) (ys_NotLone_NoName : PySem.W.subIn K (.ref C_NotLone) (.ref C_NoName) = some false) (yn_NotLone_NoName : (Value.ref C_NotLone == Value.ref C_NoName) = false) (ys_NotLone_NoPaper : PySem.W.subIn K (.ref C_NotLone) (.ref C_NoPaper) = some false) (yn_NotLone_NoPaper : (Value.ref C_NotLone == Value.ref C_NoPaper) = false) (ys_NotLone_NoRow : PySem.W.subIn K (.ref C_NotLone) (.ref C_NoRow) = some false) (yn_NotLone_NoRow : (Value.ref C_NotLone == Value.ref C_NoRow) = false) (ys_NotLone_NoText : PySem.W.subIn K (.ref C_NotLone) (.ref C_NoText) = some false) (yn_NotLone_NoText : (Value.ref C_NotLone == Value.ref C_NoText) = false) (ys_NotLone_NoWord : PySem.W.subIn K (.ref C_NotLone) (.ref C_NoWord) = some false) (yn_NotLone_NoWord : (Value.ref C_NotLone == Value.ref C_NoWord) = false) (ys_NotLone_NoYard : PySem.W.subIn K (.ref C_NotLone) (.ref C_NoYard) = some false) (yn_NotLone_NoYard : (Value.ref C_NotLone == Value.ref C_NoYard) = false) (ys_NotLone_NotApart : PySem.W.subIn K (.ref C_NotLone) (.ref C_NotApart) = some false) (yn_NotLone_NotApart : (Value.ref C_NotLone == Value.ref C_NotApart) = false) (ys_NotLone_TooLong : PySem.W.subIn K (.ref C_NotLone) (.ref C_TooLong) = some false) (yn_NotLone_TooLong : (Value.ref C_NotLone == Value.ref C_TooLong) = false) (ys_NotLone_Twice : PySem.W.subIn K (.ref C_NotLone) (.ref C_Twice) = some false) (yn_NotLone_Twice : (Value.ref C_NotLone == Value.ref C_Twice) = false) (ys_NotLone_ValueError : PySem.W.subIn K (.ref C_NotLone) (.type "ValueError") = some true) (ys_TooLong_MeetError : PySem.W.subIn K (.ref C_TooLong) (.ref C_MeetError) = some true) (yn_TooLong_MeetError : (Value.ref C_TooLong == Value.ref C_MeetError) = false) (ys_TooLong_NoCut : PySem.W.subIn K (.ref C_TooLong) (.ref C_NoCut) = some false) (yn_TooLong_NoCut : (Value.ref C_TooLong == Value.ref C_NoCut) = false) (ys_TooLong_NoDeed : PySem.W.subIn K (.ref C_TooLong) (.ref C_NoDeed) = some false) (yn_TooLong_NoDeed : (Value.ref C_TooLong == Value.ref C_NoDeed) = false) (ys_TooLong_NoDrawing : PySem.W.subIn K (.ref C_TooLong) (.ref C_NoDrawing) = some false) (yn_TooLong_NoDrawing : (Value.ref C_TooLong == Value.ref C_NoDrawing) = false) (ys_TooLong_NoName : PySem.W.subIn K (.ref C_TooLong) (.ref C_NoName) = some false) (yn_TooLong_NoName : (Value.ref C_TooLong == Value.ref C_NoName) = false) (ys_TooLong_NoPaper : PySem.W.subIn K (.ref C_TooLong) (.ref C_NoPaper) = some false) (yn_TooLong_NoPaper : (Value.ref C_TooLong == Value.ref C_NoPaper) = false) (ys_TooLong_NoRow : PySem.W.subIn K (.ref C_TooLong) (.ref C_NoRow) = some false) (yn_TooLong_NoRow : (Value.ref C_TooLong == Value.ref C_NoRow) = false) (ys_TooLong_NoText : PySem.W.subIn K (.ref C_TooLong) (.ref C_NoText) = some false) (yn_TooLong_NoText : (Value.ref C_TooLong == Value.ref C_NoText) = false) (ys_TooLong_NoWord : PySem.W.subIn K (.ref C_TooLong) (.ref C_NoWord) = some false) (yn_TooLong_NoWord : (Value.ref C_TooLong == Value.ref C_NoWord) = false) (ys_TooLong_NoYard : PySem.W.subIn K (.ref C_TooLong) (.ref C_NoYard) = some false) (yn_TooLong_NoYard : (Value.ref C_TooLong == Value.ref C_NoYard) = false) (ys_TooLong_NotApart : PySem.W.subIn K (.ref C_TooLong) (.ref C_NotApart) = some false) (yn_TooLong_NotApart : (Value.ref C_TooLong == Value.ref C_NotApart) = false) (ys_TooLong_NotLone : PySem.W.subIn K (.ref C_TooLong) (.ref C_NotLone) = some false) (yn_TooLong_NotLone : (Value.ref C_TooLong == Value.ref C_NotLone) = false) (ys_TooLong_Twice : PySem.W.subIn K (.ref C_TooLong) (.ref C_Twice) = some false) (yn_TooLong_Twice : (Value.ref C_TooLong == Value.ref C_Twice) = false) (ys_TooLong_ValueError : PySem.W.subIn K (.ref C_TooLong) (.type "ValueError") = some true) (ys_Twice_MeetError : PySem.W.subIn K (.ref C_Twice) (.ref C_MeetError) = some true) (yn_Twice_MeetError : (Value.ref C_Twice == Value.ref C_MeetError) = false) (ys_Twice_NoCut : PySem.W.subIn K (.ref C_Twice) (.ref C_NoCut) = some false) (yn_Twice_NoCut : (Value.ref C_Twice == Value.ref C_NoCut) = false) (ys_Twice_NoDeed : PySem.W.subIn K (.ref C_Twice) (.ref C_NoDeed) = some false) (yn_Twice_NoDeed : (Value.ref C_Twice == Value.ref C_NoDeed) = false) (ys_Twice_NoDrawing : PySem.W.subIn K (.ref C_Twice) (.ref C_NoDrawing) = some false) (yn_Twice_NoDrawing : (Value.ref C_Twice == Value.ref C_NoDrawing) = false) (ys_Twice_NoName : PySem.W.subIn K (.ref C_Twice) (.ref C_NoName) = some false) (yn_Twice_NoName : (Value.ref C_Twice == Value.ref C_NoName) = false) (ys_Twice_NoPaper : PySem.W.subIn K (.ref C_Twice) (.ref C_NoPaper) = some false) (yn_Twice_NoPaper : (Value.ref C_Twice == Value.ref C_NoPaper) = false) (ys_Twice_NoRow : PySem.W.subIn K (.ref C_Twice) (.ref C_NoRow) = some false) (yn_Twice_NoRow : (Value.ref C_Twice == Value.ref C_NoRow) = false) (ys_Twice_NoText : PySem.W.subIn K (.ref C_Twice) (.ref C_NoText) = some false) (yn_Twice_NoText : (Value.ref C_Twice == Value.ref C_NoText) = false) (ys_Twice_NoWord : PySem.W.subIn K (.ref C_Twice) (.ref C_NoWord) = some false) (yn_Twice_NoWord : (Value.ref C_Twice == Value.ref C_NoWord) = false) (ys_Twice_NoYard : PySem.W.subIn K (.ref C_Twice) (.ref C_NoYard) = some false) (yn_Twice_NoYard : (Value.ref C_Twice == Value.ref C_NoYard) = false) (ys_Twice_NotApart : PySem.W.subIn K (.ref C_Twice) (.ref C_NotApart) = some false) (yn_Twice_NotApart : (Value.ref C_Twice == Value.ref C_NotApart) = false) (ys_Twice_NotLone : PySem.W.subIn K (.ref C_Twice) (.ref C_NotLone) = some false) (yn_Twice_NotLone : (Value.ref C_Twice == Value.ref C_NotLone) = false) (ys_Twice_TooLong : PySem.W.subIn K (.ref C_Twice) (.ref C_TooLong) = some false) (yn_Twice_TooLong : (Value.ref C_Twice == Value.ref C_TooLong) = false) (ys_Twice_ValueError : PySem.W.subIn K (.ref C_Twice) (.type "ValueError") = some true) :
    ∃ fd : FuncData, (∀ (s : Shared) (v : Value), BindsTo s fd ⟨[v], []⟩ [("_law_script", v)]) ∧ ∀ base : Heap, K.In base → base.Ns mainGlobals mg → FnG l.prog w K mg base CX0 4 fa fd ["_law_script"] (spLaw K) := by
  have e := hfa.symm.trans (PySem.W.mg_of X G a7)
  cases e
  have F1 := fun_mk (st := s_law_box) l1 c1 k1
  have B1 := F1.binds (ps := ["_law_script", "_law_k"]) fun _ _ _ _ _ _ us hl => match us, hl with | [_, _], _ => rfl
  have F2 := fun_mk (st := s_law_take) l2 c2 k2
  have B2 := F2.binds (ps := ["_law_box_here", "_law_many"]) fun _ _ _ _ _ _ us hl => match us, hl with | [_, _], _ => rfl
  have F3 := fun_mk (st := s_law_made) l3 c3 k3
  have B3 := F3.binds (ps := ["_law_number", "_law_word"]) fun _ _ _ _ _ _ us hl => match us, hl with | [_, _], _ => rfl
  have F4 := fun_mk (st := s_law_kinds) l4 c4 k4
  have B4 := F4.binds (ps := ["_law_e"]) fun _ _ _ _ _ _ us hl => match us, hl with | [_], _ => rfl
  have F5 := fun_mk (st := s_law_caught) l5 c5 k5
  have B5 := F5.binds (ps := ["_law_way", "_law_number", "_law_word"]) fun _ _ _ _ _ _ us hl => match us, hl with | [_, _, _], _ => rfl
  have F6 := fun_mk (st := s_law_fields) l6 c6 k6
  have B6 := F6.binds (ps := ["_law_made_here"]) fun _ _ _ _ _ _ us hl => match us, hl with | [_], _ => rfl
  have F7 := fun_mk (st := s_law) l7 c7 k7
  have B7 := F7.binds (ps := ["_law_script"]) fun _ _ _ _ _ _ us hl => match us, hl with | [_], _ => rfl
  have FI_NoYard := fun_mk (st := s_NoYard) il_NoYard ic_NoYard ik_NoYard
  have BI_NoYard := FI_NoYard.binds (ps := ["self", "at"]) fun _ _ _ _ _ _ us hl => match us, hl with | [_, _], _ => rfl
  have FI_NoWord := fun_mk (st := s_NoWord) il_NoWord ic_NoWord ik_NoWord
  have BI_NoWord := FI_NoWord.binds (ps := ["self", "at"]) fun _ _ _ _ _ _ us hl => match us, hl with | [_, _], _ => rfl
  have FI_NoDrawing := fun_mk (st := s_NoDrawing) il_NoDrawing ic_NoDrawing ik_NoDrawing
  have BI_NoDrawing := FI_NoDrawing.binds (ps := ["self", "word", "at"]) fun _ _ _ _ _ _ us hl => match us, hl with | [_, _, _], _ => rfl
  have FI_NoText := fun_mk (st := s_NoText) il_NoText ic_NoText ik_NoText
  have BI_NoText := FI_NoText.binds (ps := ["self", "row"]) fun _ _ _ _ _ _ us hl => match us, hl with | [_, _], _ => rfl
  have FI_NoDeed := fun_mk (st := s_NoDeed) il_NoDeed ic_NoDeed ik_NoDeed
  have BI_NoDeed := FI_NoDeed.binds (ps := ["self", "at"]) fun _ _ _ _ _ _ us hl => match us, hl with | [_, _], _ => rfl
  have FI_NoPaper := fun_mk (st := s_NoPaper) il_NoPaper ic_NoPaper ik_NoPaper
  have BI_NoPaper := FI_NoPaper.binds (ps := ["self", "word"]) fun _ _ _ _ _ _ us hl => match us, hl with | [_, _], _ => rfl
  have FI_Twice := fun_mk (st := s_Twice) il_Twice ic_Twice ik_Twice
  have BI_Twice := FI_Twice.binds (ps := ["self", "name"]) fun _ _ _ _ _ _ us hl => match us, hl with | [_, _], _ => rfl
  have FI_NoName := fun_mk (st := s_NoName) il_NoName ic_NoName ik_NoName
  have BI_NoName := FI_NoName.binds (ps := ["self", "name"]) fun _ _ _ _ _ _ us hl => match us, hl with | [_, _], _ => rfl
  have FI_TooLong := fun_mk (st := s_TooLong) il_TooLong ic_TooLong ik_TooLong
  have BI_TooLong := FI_TooLong.binds (ps := ["self", "name"]) fun _ _ _ _ _ _ us hl => match us, hl with | [_, _], _ => rfl
  let T : Tx K mg := ⟨_, _, ⟨F1, B1, PySem.W.mg_of X G a1⟩, _, _, ⟨F2, B2, PySem.W.mg_of X G a2⟩, _, _, ⟨F3, B3, PySem.W.mg_of X G a3⟩, _, _, ⟨F4, B4, PySem.W.mg_of X G a4⟩, _, _, ⟨F5, B5, PySem.W.mg_of X G a5⟩, _, _, ⟨F6, B6, PySem.W.mg_of X G a6⟩, _, _, ⟨F7, B7, PySem.W.mg_of X G a7⟩, _, PySem.W.mg_of X G u_MeetError, _, PySem.W.mg_of X G u_NoCut, _, PySem.W.mg_of X G u_NoDeed, _, PySem.W.mg_of X G u_NoDrawing, _, PySem.W.mg_of X G u_NoName, _, PySem.W.mg_of X G u_NoPaper, _, PySem.W.mg_of X G u_NoRow, _, PySem.W.mg_of X G u_NoText, _, PySem.W.mg_of X G u_NoWord, _, PySem.W.mg_of X G u_NoYard, _, PySem.W.mg_of X G u_NotApart, _, PySem.W.mg_of X G u_NotLone, _, PySem.W.mg_of X G u_TooLong, _, PySem.W.mg_of X G u_Twice, br, bs, bv, ⟨⟨_, _, _, _, _, _, _, _, _, _, _, _, _, _, _, xL_NoYard, (show PySem.HandSPX.refsVE PySem.HandSPX.veTail = true by decide +kernel)⟩, sa_NoYard, ex_NoYard, ty_NoYard, kc_NoYard⟩, ⟨ga_NoYard, gg_NoYard, ex_NoYard, hd_NoYard, ha_NoYard, gn, gt, hm_NoYard⟩, _, _, ii_NoYard, it_NoYard, FI_NoYard, BI_NoYard, ⟨⟨_, _, _, _, _, _, _, _, _, _, _, _, _, _, _, xL_NoWord, (show PySem.HandSPX.refsVE PySem.HandSPX.veTail = true by decide +kernel)⟩, sa_NoWord, ex_NoWord, ty_NoWord, kc_NoWord⟩, ⟨ga_NoWord, gg_NoWord, ex_NoWord, hd_NoWord, ha_NoWord, gn, gt, hm_NoWord⟩, _, _, ii_NoWord, it_NoWord, FI_NoWord, BI_NoWord, ⟨⟨_, _, _, _, _, _, _, _, _, _, _, _, _, _, _, xL_NoDrawing, (show PySem.HandSPX.refsVE PySem.HandSPX.veTail = true by decide +kernel)⟩, sa_NoDrawing, ex_NoDrawing, ty_NoDrawing, kc_NoDrawing⟩, ⟨ga_NoDrawing, gg_NoDrawing, ex_NoDrawing, hd_NoDrawing, ha_NoDrawing, gn, gt, hm_NoDrawing⟩, _, _, ii_NoDrawing, it_NoDrawing, FI_NoDrawing, BI_NoDrawing, ⟨⟨_, _, _, _, _, _, _, _, _, _, _, _, _, _, _, xL_NoText, (show PySem.HandSPX.refsVE PySem.HandSPX.veTail = true by decide +kernel)⟩, sa_NoText, ex_NoText, ty_NoText, kc_NoText⟩, ⟨ga_NoText, gg_NoText, ex_NoText, hd_NoText, ha_NoText, gn, gt, hm_NoText⟩, _, _, ii_NoText, it_NoText, FI_NoText, BI_NoText, ⟨⟨_, _, _, _, _, _, _, _, _, _, _, _, _, _, _, xL_NoDeed, (show PySem.HandSPX.refsVE PySem.HandSPX.veTail = true by decide +kernel)⟩, sa_NoDeed, ex_NoDeed, ty_NoDeed, kc_NoDeed⟩, ⟨ga_NoDeed, gg_NoDeed, ex_NoDeed, hd_NoDeed, ha_NoDeed, gn, gt, hm_NoDeed⟩, _, _, ii_NoDeed, it_NoDeed, FI_NoDeed, BI_NoDeed, ⟨⟨_, _, _, _, _, _, _, _, _, _, _, _, _, _, _, xL_NoPaper, (show PySem.HandSPX.refsVE PySem.HandSPX.veTail = true by decide +kernel)⟩, sa_NoPaper, ex_NoPaper, ty_NoPaper, kc_NoPaper⟩, ⟨ga_NoPaper, gg_NoPaper, ex_NoPaper, hd_NoPaper, ha_NoPaper, gn, gt, hm_NoPaper⟩, _, _, ii_NoPaper, it_NoPaper, FI_NoPaper, BI_NoPaper, ⟨⟨_, _, _, _, _, _, _, _, _, _, _, _, _, _, _, xL_Twice, (show PySem.HandSPX.refsVE PySem.HandSPX.veTail = true by decide +kernel)⟩, sa_Twice, ex_Twice, ty_Twice, kc_Twice⟩, ⟨ga_Twice, gg_Twice, ex_Twice, hd_Twice, ha_Twice, gn, gt, hm_Twice⟩, _, _, ii_Twice, it_Twice, FI_Twice, BI_Twice, ⟨⟨_, _, _, _, _, _, _, _, _, _, _, _, _, _, _, xL_NoName, (show PySem.HandSPX.refsVE PySem.HandSPX.veTail = true by decide +kernel)⟩, sa_NoName, ex_NoName, ty_NoName, kc_NoName⟩, ⟨ga_NoName, gg_NoName, ex_NoName, hd_NoName, ha_NoName, gn, gt, hm_NoName⟩, _, _, ii_NoName, it_NoName, FI_NoName, BI_NoName, ⟨⟨_, _, _, _, _, _, _, _, _, _, _, _, _, _, _, xL_TooLong, (show PySem.HandSPX.refsVE PySem.HandSPX.veTail = true by decide +kernel)⟩, sa_TooLong, ex_TooLong, ty_TooLong, kc_TooLong⟩, ⟨ga_TooLong, gg_TooLong, ex_TooLong, hd_TooLong, ha_TooLong, gn, gt, hm_TooLong⟩, _, _, ii_TooLong, it_TooLong, FI_TooLong, BI_TooLong, q_NoCut, kc_NoCut, ty_NoCut, ⟨ga_NoCut, gg_NoCut, ex_NoCut, hd_NoCut, ha_NoCut, gn, gt, hm_NoCut⟩, q_NotApart, kc_NotApart, ty_NotApart, ⟨ga_NotApart, gg_NotApart, ex_NotApart, hd_NotApart, ha_NotApart, gn, gt, hm_NotApart⟩, q_NotLone, kc_NotLone, ty_NotLone, ⟨ga_NotLone, gg_NotLone, ex_NotLone, hd_NotLone, ha_NotLone, gn, gt, hm_NotLone⟩, q_NoRow, kc_NoRow, ty_NoRow, ⟨ga_NoRow, gg_NoRow, ex_NoRow, hd_NoRow, ha_NoRow, gn, gt, hm_NoRow⟩, PySem.W.exm_ref cb_MeetError cd_MeetError ct_MeetError sx_NoYard_MeetError, PySem.W.exm_ref cb_MeetError cd_MeetError ct_MeetError sx_NoWord_MeetError, PySem.W.exm_ref cb_MeetError cd_MeetError ct_MeetError sx_NoDrawing_MeetError, PySem.W.exm_ref cb_MeetError cd_MeetError ct_MeetError sx_NoText_MeetError, PySem.W.exm_ref cb_MeetError cd_MeetError ct_MeetError sx_NoDeed_MeetError, PySem.W.exm_ref cb_MeetError cd_MeetError ct_MeetError sx_NoPaper_MeetError, PySem.W.exm_ref cb_MeetError cd_MeetError ct_MeetError sx_Twice_MeetError, PySem.W.exm_ref cb_MeetError cd_MeetError ct_MeetError sx_NoName_MeetError, PySem.W.exm_ref cb_MeetError cd_MeetError ct_MeetError sx_TooLong_MeetError, PySem.W.exm_ref cb_MeetError cd_MeetError ct_MeetError sx_NoCut_MeetError, PySem.W.exm_ref cb_MeetError cd_MeetError ct_MeetError sx_NotApart_MeetError, PySem.W.exm_ref cb_MeetError cd_MeetError ct_MeetError sx_NotLone_MeetError, PySem.W.exm_ref cb_MeetError cd_MeetError ct_MeetError sx_NoRow_MeetError, at_NoDeed_at, at_NoDrawing_at, at_NoDrawing_word, at_NoName_name, at_NoPaper_word, at_NoText_row, at_NoWord_at, at_NoYard_at, at_TooLong_name, at_Twice_name, kitOne_mk yn_NoCut_MeetError yc_MeetError yt_MeetError ys_NoCut_MeetError, kitOne_mk yn_NoCut_NoDeed yc_NoDeed yt_NoDeed ys_NoCut_NoDeed, kitOne_mk yn_NoCut_NoDrawing yc_NoDrawing yt_NoDrawing ys_NoCut_NoDrawing, kitOne_mk yn_NoCut_NoName yc_NoName yt_NoName ys_NoCut_NoName, kitOne_mk yn_NoCut_NoPaper yc_NoPaper yt_NoPaper ys_NoCut_NoPaper, kitOne_mk yn_NoCut_NoRow yc_NoRow yt_NoRow ys_NoCut_NoRow, kitOne_mk yn_NoCut_NoText yc_NoText yt_NoText ys_NoCut_NoText, kitOne_mk yn_NoCut_NoWord yc_NoWord yt_NoWord ys_NoCut_NoWord, kitOne_mk yn_NoCut_NoYard yc_NoYard yt_NoYard ys_NoCut_NoYard, kitOne_mk yn_NoCut_NotApart yc_NotApart yt_NotApart ys_NoCut_NotApart, kitOne_mk yn_NoCut_NotLone yc_NotLone yt_NotLone ys_NoCut_NotLone, kitOne_mk yn_NoCut_TooLong yc_TooLong yt_TooLong ys_NoCut_TooLong, kitOne_mk yn_NoCut_Twice yc_Twice yt_Twice ys_NoCut_Twice, kitOne_bi (by decide +kernel) ys_NoCut_ValueError, kitOne_mk yn_NoDeed_MeetError yc_MeetError yt_MeetError ys_NoDeed_MeetError, kitOne_mk yn_NoDeed_NoCut yc_NoCut yt_NoCut ys_NoDeed_NoCut, kitOne_mk yn_NoDeed_NoDrawing yc_NoDrawing yt_NoDrawing ys_NoDeed_NoDrawing, kitOne_mk yn_NoDeed_NoName yc_NoName yt_NoName ys_NoDeed_NoName, kitOne_mk yn_NoDeed_NoPaper yc_NoPaper yt_NoPaper ys_NoDeed_NoPaper, kitOne_mk yn_NoDeed_NoRow yc_NoRow yt_NoRow ys_NoDeed_NoRow, kitOne_mk yn_NoDeed_NoText yc_NoText yt_NoText ys_NoDeed_NoText, kitOne_mk yn_NoDeed_NoWord yc_NoWord yt_NoWord ys_NoDeed_NoWord, kitOne_mk yn_NoDeed_NoYard yc_NoYard yt_NoYard ys_NoDeed_NoYard, kitOne_mk yn_NoDeed_NotApart yc_NotApart yt_NotApart ys_NoDeed_NotApart, kitOne_mk yn_NoDeed_NotLone yc_NotLone yt_NotLone ys_NoDeed_NotLone, kitOne_mk yn_NoDeed_TooLong yc_TooLong yt_TooLong ys_NoDeed_TooLong, kitOne_mk yn_NoDeed_Twice yc_Twice yt_Twice ys_NoDeed_Twice, kitOne_bi (by decide +kernel) ys_NoDeed_ValueError, kitOne_mk yn_NoDrawing_MeetError yc_MeetError yt_MeetError ys_NoDrawing_MeetError, kitOne_mk yn_NoDrawing_NoCut yc_NoCut yt_NoCut ys_NoDrawing_NoCut, kitOne_mk yn_NoDrawing_NoDeed yc_NoDeed yt_NoDeed ys_NoDrawing_NoDeed, kitOne_mk yn_NoDrawing_NoName yc_NoName yt_NoName ys_NoDrawing_NoName, kitOne_mk yn_NoDrawing_NoPaper yc_NoPaper yt_NoPaper ys_NoDrawing_NoPaper, kitOne_mk yn_NoDrawing_NoRow yc_NoRow yt_NoRow ys_NoDrawing_NoRow, kitOne_mk yn_NoDrawing_NoText yc_NoText yt_NoText ys_NoDrawing_NoText, kitOne_mk yn_NoDrawing_NoWord yc_NoWord yt_NoWord ys_NoDrawing_NoWord, kitOne_mk yn_NoDrawing_NoYard yc_NoYard yt_NoYard ys_NoDrawing_NoYard, kitOne_mk yn_NoDrawing_NotApart yc_NotApart yt_NotApart ys_NoDrawing_NotApart, kitOne_mk yn_NoDrawing_NotLone yc_NotLone yt_NotLone ys_NoDrawing_NotLone, kitOne_mk yn_NoDrawing_TooLong yc_TooLong yt_TooLong ys_NoDrawing_TooLong, kitOne_mk yn_NoDrawing_Twice yc_Twice yt_Twice ys_NoDrawing_Twice, kitOne_bi (by decide +kernel) ys_NoDrawing_ValueError, kitOne_mk yn_NoName_MeetError yc_MeetError yt_MeetError ys_NoName_MeetError, kitOne_mk yn_NoName_NoCut yc_NoCut yt_NoCut ys_NoName_NoCut, kitOne_mk yn_NoName_NoDeed yc_NoDeed yt_NoDeed ys_NoName_NoDeed, kitOne_mk yn_NoName_NoDrawing yc_NoDrawing yt_NoDrawing ys_NoName_NoDrawing, kitOne_mk yn_NoName_NoPaper yc_NoPaper yt_NoPaper ys_NoName_NoPaper, kitOne_mk yn_NoName_NoRow yc_NoRow yt_NoRow ys_NoName_NoRow, kitOne_mk yn_NoName_NoText yc_NoText yt_NoText ys_NoName_NoText, kitOne_mk yn_NoName_NoWord yc_NoWord yt_NoWord ys_NoName_NoWord, kitOne_mk yn_NoName_NoYard yc_NoYard yt_NoYard ys_NoName_NoYard, kitOne_mk yn_NoName_NotApart yc_NotApart yt_NotApart ys_NoName_NotApart, kitOne_mk yn_NoName_NotLone yc_NotLone yt_NotLone ys_NoName_NotLone, kitOne_mk yn_NoName_TooLong yc_TooLong yt_TooLong ys_NoName_TooLong, kitOne_mk yn_NoName_Twice yc_Twice yt_Twice ys_NoName_Twice, kitOne_bi (by decide +kernel) ys_NoName_ValueError, kitOne_mk yn_NoPaper_MeetError yc_MeetError yt_MeetError ys_NoPaper_MeetError, kitOne_mk yn_NoPaper_NoCut yc_NoCut yt_NoCut ys_NoPaper_NoCut, kitOne_mk yn_NoPaper_NoDeed yc_NoDeed yt_NoDeed ys_NoPaper_NoDeed, kitOne_mk yn_NoPaper_NoDrawing yc_NoDrawing yt_NoDrawing ys_NoPaper_NoDrawing, kitOne_mk yn_NoPaper_NoName yc_NoName yt_NoName ys_NoPaper_NoName, kitOne_mk yn_NoPaper_NoRow yc_NoRow yt_NoRow ys_NoPaper_NoRow, kitOne_mk yn_NoPaper_NoText yc_NoText yt_NoText ys_NoPaper_NoText, kitOne_mk yn_NoPaper_NoWord yc_NoWord yt_NoWord ys_NoPaper_NoWord, kitOne_mk yn_NoPaper_NoYard yc_NoYard yt_NoYard ys_NoPaper_NoYard, kitOne_mk yn_NoPaper_NotApart yc_NotApart yt_NotApart ys_NoPaper_NotApart, kitOne_mk yn_NoPaper_NotLone yc_NotLone yt_NotLone ys_NoPaper_NotLone, kitOne_mk yn_NoPaper_TooLong yc_TooLong yt_TooLong ys_NoPaper_TooLong, kitOne_mk yn_NoPaper_Twice yc_Twice yt_Twice ys_NoPaper_Twice, kitOne_bi (by decide +kernel) ys_NoPaper_ValueError, kitOne_mk yn_NoRow_MeetError yc_MeetError yt_MeetError ys_NoRow_MeetError, kitOne_mk yn_NoRow_NoCut yc_NoCut yt_NoCut ys_NoRow_NoCut, kitOne_mk yn_NoRow_NoDeed yc_NoDeed yt_NoDeed ys_NoRow_NoDeed, kitOne_mk yn_NoRow_NoDrawing yc_NoDrawing yt_NoDrawing ys_NoRow_NoDrawing, kitOne_mk yn_NoRow_NoName yc_NoName yt_NoName ys_NoRow_NoName, kitOne_mk yn_NoRow_NoPaper yc_NoPaper yt_NoPaper ys_NoRow_NoPaper, kitOne_mk yn_NoRow_NoText yc_NoText yt_NoText ys_NoRow_NoText, kitOne_mk yn_NoRow_NoWord yc_NoWord yt_NoWord ys_NoRow_NoWord, kitOne_mk yn_NoRow_NoYard yc_NoYard yt_NoYard ys_NoRow_NoYard, kitOne_mk yn_NoRow_NotApart yc_NotApart yt_NotApart ys_NoRow_NotApart, kitOne_mk yn_NoRow_NotLone yc_NotLone yt_NotLone ys_NoRow_NotLone, kitOne_mk yn_NoRow_TooLong yc_TooLong yt_TooLong ys_NoRow_TooLong, kitOne_mk yn_NoRow_Twice yc_Twice yt_Twice ys_NoRow_Twice, kitOne_bi (by decide +kernel) ys_NoRow_ValueError, kitOne_mk yn_NoText_MeetError yc_MeetError yt_MeetError ys_NoText_MeetError, kitOne_mk yn_NoText_NoCut yc_NoCut yt_NoCut ys_NoText_NoCut, kitOne_mk yn_NoText_NoDeed yc_NoDeed yt_NoDeed ys_NoText_NoDeed, kitOne_mk yn_NoText_NoDrawing yc_NoDrawing yt_NoDrawing ys_NoText_NoDrawing, kitOne_mk yn_NoText_NoName yc_NoName yt_NoName ys_NoText_NoName, kitOne_mk yn_NoText_NoPaper yc_NoPaper yt_NoPaper ys_NoText_NoPaper, kitOne_mk yn_NoText_NoRow yc_NoRow yt_NoRow ys_NoText_NoRow, kitOne_mk yn_NoText_NoWord yc_NoWord yt_NoWord ys_NoText_NoWord, kitOne_mk yn_NoText_NoYard yc_NoYard yt_NoYard ys_NoText_NoYard, kitOne_mk yn_NoText_NotApart yc_NotApart yt_NotApart ys_NoText_NotApart, kitOne_mk yn_NoText_NotLone yc_NotLone yt_NotLone ys_NoText_NotLone, kitOne_mk yn_NoText_TooLong yc_TooLong yt_TooLong ys_NoText_TooLong, kitOne_mk yn_NoText_Twice yc_Twice yt_Twice ys_NoText_Twice, kitOne_bi (by decide +kernel) ys_NoText_ValueError, kitOne_mk yn_NoWord_MeetError yc_MeetError yt_MeetError ys_NoWord_MeetError, kitOne_mk yn_NoWord_NoCut yc_NoCut yt_NoCut ys_NoWord_NoCut, kitOne_mk yn_NoWord_NoDeed yc_NoDeed yt_NoDeed ys_NoWord_NoDeed, kitOne_mk yn_NoWord_NoDrawing yc_NoDrawing yt_NoDrawing ys_NoWord_NoDrawing, kitOne_mk yn_NoWord_NoName yc_NoName yt_NoName ys_NoWord_NoName, kitOne_mk yn_NoWord_NoPaper yc_NoPaper yt_NoPaper ys_NoWord_NoPaper, kitOne_mk yn_NoWord_NoRow yc_NoRow yt_NoRow ys_NoWord_NoRow, kitOne_mk yn_NoWord_NoText yc_NoText yt_NoText ys_NoWord_NoText, kitOne_mk yn_NoWord_NoYard yc_NoYard yt_NoYard ys_NoWord_NoYard, kitOne_mk yn_NoWord_NotApart yc_NotApart yt_NotApart ys_NoWord_NotApart, kitOne_mk yn_NoWord_NotLone yc_NotLone yt_NotLone ys_NoWord_NotLone, kitOne_mk yn_NoWord_TooLong yc_TooLong yt_TooLong ys_NoWord_TooLong, kitOne_mk yn_NoWord_Twice yc_Twice yt_Twice ys_NoWord_Twice, kitOne_bi (by decide +kernel) ys_NoWord_ValueError, kitOne_mk yn_NoYard_MeetError yc_MeetError yt_MeetError ys_NoYard_MeetError, kitOne_mk yn_NoYard_NoCut yc_NoCut yt_NoCut ys_NoYard_NoCut, kitOne_mk yn_NoYard_NoDeed yc_NoDeed yt_NoDeed ys_NoYard_NoDeed, kitOne_mk yn_NoYard_NoDrawing yc_NoDrawing yt_NoDrawing ys_NoYard_NoDrawing, kitOne_mk yn_NoYard_NoName yc_NoName yt_NoName ys_NoYard_NoName, kitOne_mk yn_NoYard_NoPaper yc_NoPaper yt_NoPaper ys_NoYard_NoPaper, kitOne_mk yn_NoYard_NoRow yc_NoRow yt_NoRow ys_NoYard_NoRow, kitOne_mk yn_NoYard_NoText yc_NoText yt_NoText ys_NoYard_NoText, kitOne_mk yn_NoYard_NoWord yc_NoWord yt_NoWord ys_NoYard_NoWord, kitOne_mk yn_NoYard_NotApart yc_NotApart yt_NotApart ys_NoYard_NotApart, kitOne_mk yn_NoYard_NotLone yc_NotLone yt_NotLone ys_NoYard_NotLone, kitOne_mk yn_NoYard_TooLong yc_TooLong yt_TooLong ys_NoYard_TooLong, kitOne_mk yn_NoYard_Twice yc_Twice yt_Twice ys_NoYard_Twice, kitOne_bi (by decide +kernel) ys_NoYard_ValueError, kitOne_mk yn_NotApart_MeetError yc_MeetError yt_MeetError ys_NotApart_MeetError, kitOne_mk yn_NotApart_NoCut yc_NoCut yt_NoCut ys_NotApart_NoCut, kitOne_mk yn_NotApart_NoDeed yc_NoDeed yt_NoDeed ys_NotApart_NoDeed, kitOne_mk yn_NotApart_NoDrawing yc_NoDrawing yt_NoDrawing ys_NotApart_NoDrawing, kitOne_mk yn_NotApart_NoName yc_NoName yt_NoName ys_NotApart_NoName, kitOne_mk yn_NotApart_NoPaper yc_NoPaper yt_NoPaper ys_NotApart_NoPaper, kitOne_mk yn_NotApart_NoRow yc_NoRow yt_NoRow ys_NotApart_NoRow, kitOne_mk yn_NotApart_NoText yc_NoText yt_NoText ys_NotApart_NoText, kitOne_mk yn_NotApart_NoWord yc_NoWord yt_NoWord ys_NotApart_NoWord, kitOne_mk yn_NotApart_NoYard yc_NoYard yt_NoYard ys_NotApart_NoYard, kitOne_mk yn_NotApart_NotLone yc_NotLone yt_NotLone ys_NotApart_NotLone, kitOne_mk yn_NotApart_TooLong yc_TooLong yt_TooLong ys_NotApart_TooLong, kitOne_mk yn_NotApart_Twice yc_Twice yt_Twice ys_NotApart_Twice, kitOne_bi (by decide +kernel) ys_NotApart_ValueError, kitOne_mk yn_NotLone_MeetError yc_MeetError yt_MeetError ys_NotLone_MeetError, kitOne_mk yn_NotLone_NoCut yc_NoCut yt_NoCut ys_NotLone_NoCut, kitOne_mk yn_NotLone_NoDeed yc_NoDeed yt_NoDeed ys_NotLone_NoDeed, kitOne_mk yn_NotLone_NoDrawing yc_NoDrawing yt_NoDrawing ys_NotLone_NoDrawing, kitOne_mk yn_NotLone_NoName yc_NoName yt_NoName ys_NotLone_NoName, kitOne_mk yn_NotLone_NoPaper yc_NoPaper yt_NoPaper ys_NotLone_NoPaper, kitOne_mk yn_NotLone_NoRow yc_NoRow yt_NoRow ys_NotLone_NoRow, kitOne_mk yn_NotLone_NoText yc_NoText yt_NoText ys_NotLone_NoText, kitOne_mk yn_NotLone_NoWord yc_NoWord yt_NoWord ys_NotLone_NoWord, kitOne_mk yn_NotLone_NoYard yc_NoYard yt_NoYard ys_NotLone_NoYard, kitOne_mk yn_NotLone_NotApart yc_NotApart yt_NotApart ys_NotLone_NotApart, kitOne_mk yn_NotLone_TooLong yc_TooLong yt_TooLong ys_NotLone_TooLong, kitOne_mk yn_NotLone_Twice yc_Twice yt_Twice ys_NotLone_Twice, kitOne_bi (by decide +kernel) ys_NotLone_ValueError, kitOne_mk yn_TooLong_MeetError yc_MeetError yt_MeetError ys_TooLong_MeetError, kitOne_mk yn_TooLong_NoCut yc_NoCut yt_NoCut ys_TooLong_NoCut, kitOne_mk yn_TooLong_NoDeed yc_NoDeed yt_NoDeed ys_TooLong_NoDeed, kitOne_mk yn_TooLong_NoDrawing yc_NoDrawing yt_NoDrawing ys_TooLong_NoDrawing, kitOne_mk yn_TooLong_NoName yc_NoName yt_NoName ys_TooLong_NoName, kitOne_mk yn_TooLong_NoPaper yc_NoPaper yt_NoPaper ys_TooLong_NoPaper, kitOne_mk yn_TooLong_NoRow yc_NoRow yt_NoRow ys_TooLong_NoRow, kitOne_mk yn_TooLong_NoText yc_NoText yt_NoText ys_TooLong_NoText, kitOne_mk yn_TooLong_NoWord yc_NoWord yt_NoWord ys_TooLong_NoWord, kitOne_mk yn_TooLong_NoYard yc_NoYard yt_NoYard ys_TooLong_NoYard, kitOne_mk yn_TooLong_NotApart yc_NotApart yt_NotApart ys_TooLong_NotApart, kitOne_mk yn_TooLong_NotLone yc_NotLone yt_NotLone ys_TooLong_NotLone, kitOne_mk yn_TooLong_Twice yc_Twice yt_Twice ys_TooLong_Twice, kitOne_bi (by decide +kernel) ys_TooLong_ValueError, kitOne_mk yn_Twice_MeetError yc_MeetError yt_MeetError ys_Twice_MeetError, kitOne_mk yn_Twice_NoCut yc_NoCut yt_NoCut ys_Twice_NoCut, kitOne_mk yn_Twice_NoDeed yc_NoDeed yt_NoDeed ys_Twice_NoDeed, kitOne_mk yn_Twice_NoDrawing yc_NoDrawing yt_NoDrawing ys_Twice_NoDrawing, kitOne_mk yn_Twice_NoName yc_NoName yt_NoName ys_Twice_NoName, kitOne_mk yn_Twice_NoPaper yc_NoPaper yt_NoPaper ys_Twice_NoPaper, kitOne_mk yn_Twice_NoRow yc_NoRow yt_NoRow ys_Twice_NoRow, kitOne_mk yn_Twice_NoText yc_NoText yt_NoText ys_Twice_NoText, kitOne_mk yn_Twice_NoWord yc_NoWord yt_NoWord ys_Twice_NoWord, kitOne_mk yn_Twice_NoYard yc_NoYard yt_NoYard ys_Twice_NoYard, kitOne_mk yn_Twice_NotApart yc_NotApart yt_NotApart ys_Twice_NotApart, kitOne_mk yn_Twice_NotLone yc_NotLone yt_NotLone ys_Twice_NotLone, kitOne_mk yn_Twice_TooLong yc_TooLong yt_TooLong ys_Twice_TooLong, kitOne_bi (by decide +kernel) ys_Twice_ValueError, PySem.W.mg_none_of X G b1, PySem.W.mg_none_of X G b2, PySem.W.mg_none_of X G b3, PySem.W.mg_none_of X G b4, PySem.W.mg_none_of X G b5, PySem.W.mg_none_of X G b6, PySem.W.mg_none_of X G b7⟩
  exact ⟨_, fun s v => .of_eq rfl, fun base _ _ => Pu.FnG.law (cls := clsT T) (flds := flds1) law_m (ok_law T)⟩
end Lw
set_option maxRecDepth 100000 in
set_option maxHeartbeats 0 in
theorem PySem.Challenge.cw_mustmeet_k01_refusals_holds : PySem.Challenge.rw_mustmeet_k01_refusals.Holds := by
  w_on; o_law; k_head; (case hw => w_witness2)
  k_fill
  refine Pu.walk (k := 4) ⟨rfl, by decide, by decide⟩ (l := PySem.Challenge.rw_mustmeet_k01_refusals) rfl rfl (fun w h Y => PySem.W.kIn_of Y) ?F
  case F =>
    intro w mg fa h KX G hmg
    refine' Lw.all_mk KX G hmg ?a1 ?l1 ?c1 ?k1 ?a2 ?l2 ?c2 ?k2 ?a3 ?l3 ?c3 ?k3 ?a4 ?l4 ?c4 ?k4 ?a5 ?l5 ?c5 ?k5 ?a6 ?l6 ?c6 ?k6 ?a7 ?l7 ?c7 ?k7 ?b1 ?b2 ?b3 ?b4 ?b5 ?b6 ?b7 ?u_MeetError ?u_NoCut ?u_NoDeed ?u_NoDrawing ?u_NoName ?u_NoPaper ?u_NoRow ?u_NoText ?u_NoWord ?u_NoYard ?u_NotApart ?u_NotLone ?u_TooLong ?u_Twice ?br ?bs ?bv ?gn ?gt ?cb_MeetError ?cd_MeetError ?ct_MeetError ?xL_NoYard ?sa_NoYard ?ex_NoYard ?ty_NoYard ?kc_NoYard ?ga_NoYard ?gg_NoYard ?hd_NoYard ?ha_NoYard ?hm_NoYard ?ii_NoYard ?it_NoYard ?il_NoYard ?ic_NoYard ?ik_NoYard ?xL_NoWord ?sa_NoWord ?ex_NoWord ?ty_NoWord ?kc_NoWord ?ga_NoWord ?gg_NoWord ?hd_NoWord ?ha_NoWord ?hm_NoWord ?ii_NoWord ?it_NoWord ?il_NoWord ?ic_NoWord ?ik_NoWord ?xL_NoDrawing ?sa_NoDrawing ?ex_NoDrawing ?ty_NoDrawing ?kc_NoDrawing ?ga_NoDrawing ?gg_NoDrawing ?hd_NoDrawing ?ha_NoDrawing ?hm_NoDrawing ?ii_NoDrawing ?it_NoDrawing ?il_NoDrawing ?ic_NoDrawing ?ik_NoDrawing ?xL_NoText ?sa_NoText ?ex_NoText ?ty_NoText ?kc_NoText ?ga_NoText ?gg_NoText ?hd_NoText ?ha_NoText ?hm_NoText ?ii_NoText ?it_NoText ?il_NoText ?ic_NoText ?ik_NoText ?xL_NoDeed ?sa_NoDeed ?ex_NoDeed ?ty_NoDeed ?kc_NoDeed ?ga_NoDeed ?gg_NoDeed ?hd_NoDeed ?ha_NoDeed ?hm_NoDeed ?ii_NoDeed ?it_NoDeed ?il_NoDeed ?ic_NoDeed ?ik_NoDeed ?xL_NoPaper ?sa_NoPaper ?ex_NoPaper ?ty_NoPaper ?kc_NoPaper ?ga_NoPaper ?gg_NoPaper ?hd_NoPaper ?ha_NoPaper ?hm_NoPaper ?ii_NoPaper ?it_NoPaper ?il_NoPaper ?ic_NoPaper ?ik_NoPaper ?xL_Twice ?sa_Twice ?ex_Twice ?ty_Twice ?kc_Twice ?ga_Twice ?gg_Twice ?hd_Twice ?ha_Twice ?hm_Twice ?ii_Twice ?it_Twice ?il_Twice ?ic_Twice ?ik_Twice ?xL_NoName ?sa_NoName ?ex_NoName ?ty_NoName ?kc_NoName ?ga_NoName ?gg_NoName ?hd_NoName ?ha_NoName ?hm_NoName ?ii_NoName ?it_NoName ?il_NoName ?ic_NoName ?ik_NoName ?xL_TooLong ?sa_TooLong ?ex_TooLong ?ty_TooLong ?kc_TooLong ?ga_TooLong ?gg_TooLong ?hd_TooLong ?ha_TooLong ?hm_TooLong ?ii_TooLong ?it_TooLong ?il_TooLong ?ic_TooLong ?ik_TooLong ?q_NoCut ?ex_NoCut ?ty_NoCut ?kc_NoCut ?ga_NoCut ?gg_NoCut ?hd_NoCut ?ha_NoCut ?hm_NoCut ?q_NotApart ?ex_NotApart ?ty_NotApart ?kc_NotApart ?ga_NotApart ?gg_NotApart ?hd_NotApart ?ha_NotApart ?hm_NotApart ?q_NotLone ?ex_NotLone ?ty_NotLone ?kc_NotLone ?ga_NotLone ?gg_NotLone ?hd_NotLone ?ha_NotLone ?hm_NotLone ?q_NoRow ?ex_NoRow ?ty_NoRow ?kc_NoRow ?ga_NoRow ?gg_NoRow ?hd_NoRow ?ha_NoRow ?hm_NoRow ?sx_NoYard_MeetError ?sx_NoWord_MeetError ?sx_NoDrawing_MeetError ?sx_NoText_MeetError ?sx_NoDeed_MeetError ?sx_NoPaper_MeetError ?sx_Twice_MeetError ?sx_NoName_MeetError ?sx_TooLong_MeetError ?sx_NoCut_MeetError ?sx_NotApart_MeetError ?sx_NotLone_MeetError ?sx_NoRow_MeetError ?at_NoDeed_at ?at_NoDrawing_at ?at_NoDrawing_word ?at_NoName_name ?at_NoPaper_word ?at_NoText_row ?at_NoWord_at ?at_NoYard_at ?at_TooLong_name ?at_Twice_name ?yc_MeetError ?yt_MeetError ?yc_NoCut ?yt_NoCut ?yc_NoDeed ?yt_NoDeed ?yc_NoDrawing ?yt_NoDrawing ?yc_NoName ?yt_NoName ?yc_NoPaper ?yt_NoPaper ?yc_NoRow ?yt_NoRow ?yc_NoText ?yt_NoText ?yc_NoWord ?yt_NoWord ?yc_NoYard ?yt_NoYard ?yc_NotApart ?yt_NotApart ?yc_NotLone ?yt_NotLone ?yc_TooLong ?yt_TooLong ?yc_Twice ?yt_Twice ?ys_NoCut_MeetError ?yn_NoCut_MeetError ?ys_NoCut_NoDeed ?yn_NoCut_NoDeed ?ys_NoCut_NoDrawing ?yn_NoCut_NoDrawing ?ys_NoCut_NoName ?yn_NoCut_NoName ?ys_NoCut_NoPaper ?yn_NoCut_NoPaper ?ys_NoCut_NoRow ?yn_NoCut_NoRow ?ys_NoCut_NoText ?yn_NoCut_NoText ?ys_NoCut_NoWord ?yn_NoCut_NoWord ?ys_NoCut_NoYard ?yn_NoCut_NoYard ?ys_NoCut_NotApart ?yn_NoCut_NotApart ?ys_NoCut_NotLone ?yn_NoCut_NotLone ?ys_NoCut_TooLong ?yn_NoCut_TooLong ?ys_NoCut_Twice ?yn_NoCut_Twice ?ys_NoCut_ValueError ?ys_NoDeed_MeetError ?yn_NoDeed_MeetError ?ys_NoDeed_NoCut ?yn_NoDeed_NoCut ?ys_NoDeed_NoDrawing ?yn_NoDeed_NoDrawing ?ys_NoDeed_NoName ?yn_NoDeed_NoName ?ys_NoDeed_NoPaper ?yn_NoDeed_NoPaper ?ys_NoDeed_NoRow ?yn_NoDeed_NoRow ?ys_NoDeed_NoText ?yn_NoDeed_NoText ?ys_NoDeed_NoWord ?yn_NoDeed_NoWord ?ys_NoDeed_NoYard ?yn_NoDeed_NoYard ?ys_NoDeed_NotApart ?yn_NoDeed_NotApart ?ys_NoDeed_NotLone ?yn_NoDeed_NotLone ?ys_NoDeed_TooLong ?yn_NoDeed_TooLong ?ys_NoDeed_Twice ?yn_NoDeed_Twice ?ys_NoDeed_ValueError ?ys_NoDrawing_MeetError ?yn_NoDrawing_MeetError ?ys_NoDrawing_NoCut ?yn_NoDrawing_NoCut ?ys_NoDrawing_NoDeed ?yn_NoDrawing_NoDeed ?ys_NoDrawing_NoName ?yn_NoDrawing_NoName ?ys_NoDrawing_NoPaper ?yn_NoDrawing_NoPaper ?ys_NoDrawing_NoRow ?yn_NoDrawing_NoRow ?ys_NoDrawing_NoText ?yn_NoDrawing_NoText ?ys_NoDrawing_NoWord ?yn_NoDrawing_NoWord ?ys_NoDrawing_NoYard ?yn_NoDrawing_NoYard ?ys_NoDrawing_NotApart ?yn_NoDrawing_NotApart ?ys_NoDrawing_NotLone ?yn_NoDrawing_NotLone ?ys_NoDrawing_TooLong ?yn_NoDrawing_TooLong ?ys_NoDrawing_Twice ?yn_NoDrawing_Twice ?ys_NoDrawing_ValueError ?ys_NoName_MeetError ?yn_NoName_MeetError ?ys_NoName_NoCut ?yn_NoName_NoCut ?ys_NoName_NoDeed ?yn_NoName_NoDeed ?ys_NoName_NoDrawing ?yn_NoName_NoDrawing ?ys_NoName_NoPaper ?yn_NoName_NoPaper ?ys_NoName_NoRow ?yn_NoName_NoRow ?ys_NoName_NoText ?yn_NoName_NoText ?ys_NoName_NoWord ?yn_NoName_NoWord ?ys_NoName_NoYard ?yn_NoName_NoYard ?ys_NoName_NotApart ?yn_NoName_NotApart ?ys_NoName_NotLone ?yn_NoName_NotLone ?ys_NoName_TooLong ?yn_NoName_TooLong ?ys_NoName_Twice ?yn_NoName_Twice ?ys_NoName_ValueError ?ys_NoPaper_MeetError ?yn_NoPaper_MeetError ?ys_NoPaper_NoCut ?yn_NoPaper_NoCut ?ys_NoPaper_NoDeed ?yn_NoPaper_NoDeed ?ys_NoPaper_NoDrawing ?yn_NoPaper_NoDrawing ?ys_NoPaper_NoName ?yn_NoPaper_NoName ?ys_NoPaper_NoRow ?yn_NoPaper_NoRow ?ys_NoPaper_NoText ?yn_NoPaper_NoText ?ys_NoPaper_NoWord ?yn_NoPaper_NoWord ?ys_NoPaper_NoYard ?yn_NoPaper_NoYard ?ys_NoPaper_NotApart ?yn_NoPaper_NotApart ?ys_NoPaper_NotLone ?yn_NoPaper_NotLone ?ys_NoPaper_TooLong ?yn_NoPaper_TooLong ?ys_NoPaper_Twice ?yn_NoPaper_Twice ?ys_NoPaper_ValueError ?ys_NoRow_MeetError ?yn_NoRow_MeetError ?ys_NoRow_NoCut ?yn_NoRow_NoCut ?ys_NoRow_NoDeed ?yn_NoRow_NoDeed ?ys_NoRow_NoDrawing ?yn_NoRow_NoDrawing ?ys_NoRow_NoName ?yn_NoRow_NoName ?ys_NoRow_NoPaper ?yn_NoRow_NoPaper ?ys_NoRow_NoText ?yn_NoRow_NoText ?ys_NoRow_NoWord ?yn_NoRow_NoWord ?ys_NoRow_NoYard ?yn_NoRow_NoYard ?ys_NoRow_NotApart ?yn_NoRow_NotApart ?ys_NoRow_NotLone ?yn_NoRow_NotLone ?ys_NoRow_TooLong ?yn_NoRow_TooLong ?ys_NoRow_Twice ?yn_NoRow_Twice ?ys_NoRow_ValueError ?ys_NoText_MeetError ?yn_NoText_MeetError ?ys_NoText_NoCut ?yn_NoText_NoCut ?ys_NoText_NoDeed ?yn_NoText_NoDeed ?ys_NoText_NoDrawing ?yn_NoText_NoDrawing ?ys_NoText_NoName ?yn_NoText_NoName ?ys_NoText_NoPaper ?yn_NoText_NoPaper ?ys_NoText_NoRow ?yn_NoText_NoRow ?ys_NoText_NoWord ?yn_NoText_NoWord ?ys_NoText_NoYard ?yn_NoText_NoYard ?ys_NoText_NotApart ?yn_NoText_NotApart ?ys_NoText_NotLone ?yn_NoText_NotLone ?ys_NoText_TooLong ?yn_NoText_TooLong ?ys_NoText_Twice ?yn_NoText_Twice ?ys_NoText_ValueError ?ys_NoWord_MeetError ?yn_NoWord_MeetError ?ys_NoWord_NoCut ?yn_NoWord_NoCut ?ys_NoWord_NoDeed ?yn_NoWord_NoDeed ?ys_NoWord_NoDrawing ?yn_NoWord_NoDrawing ?ys_NoWord_NoName ?yn_NoWord_NoName ?ys_NoWord_NoPaper ?yn_NoWord_NoPaper ?ys_NoWord_NoRow ?yn_NoWord_NoRow ?ys_NoWord_NoText ?yn_NoWord_NoText ?ys_NoWord_NoYard ?yn_NoWord_NoYard ?ys_NoWord_NotApart ?yn_NoWord_NotApart ?ys_NoWord_NotLone ?yn_NoWord_NotLone ?ys_NoWord_TooLong ?yn_NoWord_TooLong ?ys_NoWord_Twice ?yn_NoWord_Twice ?ys_NoWord_ValueError ?ys_NoYard_MeetError ?yn_NoYard_MeetError ?ys_NoYard_NoCut ?yn_NoYard_NoCut ?ys_NoYard_NoDeed ?yn_NoYard_NoDeed ?ys_NoYard_NoDrawing ?yn_NoYard_NoDrawing ?ys_NoYard_NoName ?yn_NoYard_NoName ?ys_NoYard_NoPaper ?yn_NoYard_NoPaper ?ys_NoYard_NoRow ?yn_NoYard_NoRow ?ys_NoYard_NoText ?yn_NoYard_NoText ?ys_NoYard_NoWord ?yn_NoYard_NoWord ?ys_NoYard_NotApart ?yn_NoYard_NotApart ?ys_NoYard_NotLone ?yn_NoYard_NotLone ?ys_NoYard_TooLong ?yn_NoYard_TooLong ?ys_NoYard_Twice ?yn_NoYard_Twice ?ys_NoYard_ValueError ?ys_NotApart_MeetError ?yn_NotApart_MeetError ?ys_NotApart_NoCut ?yn_NotApart_NoCut ?ys_NotApart_NoDeed ?yn_NotApart_NoDeed ?ys_NotApart_NoDrawing ?yn_NotApart_NoDrawing ?ys_NotApart_NoName ?yn_NotApart_NoName ?ys_NotApart_NoPaper ?yn_NotApart_NoPaper ?ys_NotApart_NoRow ?yn_NotApart_NoRow ?ys_NotApart_NoText ?yn_NotApart_NoText ?ys_NotApart_NoWord ?yn_NotApart_NoWord ?ys_NotApart_NoYard ?yn_NotApart_NoYard ?ys_NotApart_NotLone ?yn_NotApart_NotLone ?ys_NotApart_TooLong ?yn_NotApart_TooLong ?ys_NotApart_Twice ?yn_NotApart_Twice ?ys_NotApart_ValueError ?ys_NotLone_MeetError ?yn_NotLone_MeetError ?ys_NotLone_NoCut ?yn_NotLone_NoCut ?ys_NotLone_NoDeed ?yn_NotLone_NoDeed ?ys_NotLone_NoDrawing ?yn_NotLone_NoDrawing ?ys_NotLone_NoName ?yn_NotLone_NoName ?ys_NotLone_NoPaper ?yn_NotLone_NoPaper ?ys_NotLone_NoRow ?yn_NotLone_NoRow ?ys_NotLone_NoText ?yn_NotLone_NoText ?ys_NotLone_NoWord ?yn_NotLone_NoWord ?ys_NotLone_NoYard ?yn_NotLone_NoYard ?ys_NotLone_NotApart ?yn_NotLone_NotApart ?ys_NotLone_TooLong ?yn_NotLone_TooLong ?ys_NotLone_Twice ?yn_NotLone_Twice ?ys_NotLone_ValueError ?ys_TooLong_MeetError ?yn_TooLong_MeetError ?ys_TooLong_NoCut ?yn_TooLong_NoCut ?ys_TooLong_NoDeed ?yn_TooLong_NoDeed ?ys_TooLong_NoDrawing ?yn_TooLong_NoDrawing ?ys_TooLong_NoName ?yn_TooLong_NoName ?ys_TooLong_NoPaper ?yn_TooLong_NoPaper ?ys_TooLong_NoRow ?yn_TooLong_NoRow ?ys_TooLong_NoText ?yn_TooLong_NoText ?ys_TooLong_NoWord ?yn_TooLong_NoWord ?ys_TooLong_NoYard ?yn_TooLong_NoYard ?ys_TooLong_NotApart ?yn_TooLong_NotApart ?ys_TooLong_NotLone ?yn_TooLong_NotLone ?ys_TooLong_Twice ?yn_TooLong_Twice ?ys_TooLong_ValueError ?ys_Twice_MeetError ?yn_Twice_MeetError ?ys_Twice_NoCut ?yn_Twice_NoCut ?ys_Twice_NoDeed ?yn_Twice_NoDeed ?ys_Twice_NoDrawing ?yn_Twice_NoDrawing ?ys_Twice_NoName ?yn_Twice_NoName ?ys_Twice_NoPaper ?yn_Twice_NoPaper ?ys_Twice_NoRow ?yn_Twice_NoRow ?ys_Twice_NoText ?yn_Twice_NoText ?ys_Twice_NoWord ?yn_Twice_NoWord ?ys_Twice_NoYard ?yn_Twice_NoYard ?ys_Twice_NotApart ?yn_Twice_NotApart ?ys_Twice_NotLone ?yn_Twice_NotLone ?ys_Twice_TooLong ?yn_Twice_TooLong ?ys_Twice_ValueError
    (case a1 => k_is); (case l1 => k_is); (case c1 => k_is); (case k1 => k_is); (case a2 => k_is); (case l2 => k_is); (case c2 => k_is); (case k2 => k_is); (case a3 => k_is); (case l3 => k_is); (case c3 => k_is); (case k3 => k_is); (case a4 => k_is); (case l4 => k_is); (case c4 => k_is); (case k4 => k_is); (case a5 => k_is); (case l5 => k_is); (case c5 => k_is); (case k5 => k_is); (case a6 => k_is); (case l6 => k_is); (case c6 => k_is); (case k6 => k_is); (case a7 => k_is); (case l7 => k_is); (case c7 => k_is); (case k7 => k_is); (case b1 => k_is); (case b2 => k_is); (case b3 => k_is); (case b4 => k_is); (case b5 => k_is); (case b6 => k_is); (case b7 => k_is); (case u_MeetError => k_is); (case u_NoCut => k_is); (case u_NoDeed => k_is); (case u_NoDrawing => k_is); (case u_NoName => k_is); (case u_NoPaper => k_is); (case u_NoRow => k_is); (case u_NoText => k_is); (case u_NoWord => k_is); (case u_NoYard => k_is); (case u_NotApart => k_is); (case u_NotLone => k_is); (case u_TooLong => k_is); (case u_Twice => k_is); (case br => k_is); (case bs => k_is); (case bv => k_is); (case gn => k_is); (case gt => k_is); (case cb_MeetError => k_is); (case cd_MeetError => k_is); (case ct_MeetError => k_is); (case xL_NoYard => k_is); (case sa_NoYard => k_is); (case ex_NoYard => k_is); (case ty_NoYard => k_is); (case kc_NoYard => k_is); (case ga_NoYard => k_is); (case gg_NoYard => k_is); (case hd_NoYard => k_is); (case ha_NoYard => k_is); (case hm_NoYard => k_is); (case ii_NoYard => k_is); (case it_NoYard => k_is); (case il_NoYard => k_is); (case ic_NoYard => k_is); (case ik_NoYard => k_is); (case xL_NoWord => k_is); (case sa_NoWord => k_is); (case ex_NoWord => k_is); (case ty_NoWord => k_is); (case kc_NoWord => k_is); (case ga_NoWord => k_is); (case gg_NoWord => k_is); (case hd_NoWord => k_is); (case ha_NoWord => k_is); (case hm_NoWord => k_is); (case ii_NoWord => k_is); (case it_NoWord => k_is); (case il_NoWord => k_is); (case ic_NoWord => k_is); (case ik_NoWord => k_is); (case xL_NoDrawing => k_is); (case sa_NoDrawing => k_is); (case ex_NoDrawing => k_is); (case ty_NoDrawing => k_is); (case kc_NoDrawing => k_is); (case ga_NoDrawing => k_is); (case gg_NoDrawing => k_is); (case hd_NoDrawing => k_is); (case ha_NoDrawing => k_is); (case hm_NoDrawing => k_is); (case ii_NoDrawing => k_is); (case it_NoDrawing => k_is); (case il_NoDrawing => k_is); (case ic_NoDrawing => k_is); (case ik_NoDrawing => k_is); (case xL_NoText => k_is); (case sa_NoText => k_is); (case ex_NoText => k_is); (case ty_NoText => k_is); (case kc_NoText => k_is); (case ga_NoText => k_is); (case gg_NoText => k_is); (case hd_NoText => k_is); (case ha_NoText => k_is); (case hm_NoText => k_is); (case ii_NoText => k_is); (case it_NoText => k_is); (case il_NoText => k_is); (case ic_NoText => k_is); (case ik_NoText => k_is); (case xL_NoDeed => k_is); (case sa_NoDeed => k_is); (case ex_NoDeed => k_is); (case ty_NoDeed => k_is); (case kc_NoDeed => k_is); (case ga_NoDeed => k_is); (case gg_NoDeed => k_is); (case hd_NoDeed => k_is); (case ha_NoDeed => k_is); (case hm_NoDeed => k_is); (case ii_NoDeed => k_is); (case it_NoDeed => k_is); (case il_NoDeed => k_is); (case ic_NoDeed => k_is); (case ik_NoDeed => k_is); (case xL_NoPaper => k_is); (case sa_NoPaper => k_is); (case ex_NoPaper => k_is); (case ty_NoPaper => k_is); (case kc_NoPaper => k_is); (case ga_NoPaper => k_is); (case gg_NoPaper => k_is); (case hd_NoPaper => k_is); (case ha_NoPaper => k_is); (case hm_NoPaper => k_is); (case ii_NoPaper => k_is); (case it_NoPaper => k_is); (case il_NoPaper => k_is); (case ic_NoPaper => k_is); (case ik_NoPaper => k_is); (case xL_Twice => k_is); (case sa_Twice => k_is); (case ex_Twice => k_is); (case ty_Twice => k_is); (case kc_Twice => k_is); (case ga_Twice => k_is); (case gg_Twice => k_is); (case hd_Twice => k_is); (case ha_Twice => k_is); (case hm_Twice => k_is); (case ii_Twice => k_is); (case it_Twice => k_is); (case il_Twice => k_is); (case ic_Twice => k_is); (case ik_Twice => k_is); (case xL_NoName => k_is); (case sa_NoName => k_is); (case ex_NoName => k_is); (case ty_NoName => k_is); (case kc_NoName => k_is); (case ga_NoName => k_is); (case gg_NoName => k_is); (case hd_NoName => k_is); (case ha_NoName => k_is); (case hm_NoName => k_is); (case ii_NoName => k_is); (case it_NoName => k_is); (case il_NoName => k_is); (case ic_NoName => k_is); (case ik_NoName => k_is); (case xL_TooLong => k_is); (case sa_TooLong => k_is); (case ex_TooLong => k_is); (case ty_TooLong => k_is); (case kc_TooLong => k_is); (case ga_TooLong => k_is); (case gg_TooLong => k_is); (case hd_TooLong => k_is); (case ha_TooLong => k_is); (case hm_TooLong => k_is); (case ii_TooLong => k_is); (case it_TooLong => k_is); (case il_TooLong => k_is); (case ic_TooLong => k_is); (case ik_TooLong => k_is); (case q_NoCut => first | k_exc | k_is); (case ex_NoCut => k_is); (case ty_NoCut => k_is); (case kc_NoCut => k_is); (case ga_NoCut => k_is); (case gg_NoCut => k_is); (case hd_NoCut => k_is); (case ha_NoCut => k_is); (case hm_NoCut => k_is); (case q_NotApart => first | k_exc | k_is); (case ex_NotApart => k_is); (case ty_NotApart => k_is); (case kc_NotApart => k_is); (case ga_NotApart => k_is); (case gg_NotApart => k_is); (case hd_NotApart => k_is); (case ha_NotApart => k_is); (case hm_NotApart => k_is); (case q_NotLone => first | k_exc | k_is); (case ex_NotLone => k_is); (case ty_NotLone => k_is); (case kc_NotLone => k_is); (case ga_NotLone => k_is); (case gg_NotLone => k_is); (case hd_NotLone => k_is); (case ha_NotLone => k_is); (case hm_NotLone => k_is); (case q_NoRow => first | k_exc | k_is); (case ex_NoRow => k_is); (case ty_NoRow => k_is); (case kc_NoRow => k_is); (case ga_NoRow => k_is); (case gg_NoRow => k_is); (case hd_NoRow => k_is); (case ha_NoRow => k_is); (case hm_NoRow => k_is); (case sx_NoYard_MeetError => first | rfl | k_is); (case sx_NoWord_MeetError => first | rfl | k_is); (case sx_NoDrawing_MeetError => first | rfl | k_is); (case sx_NoText_MeetError => first | rfl | k_is); (case sx_NoDeed_MeetError => first | rfl | k_is); (case sx_NoPaper_MeetError => first | rfl | k_is); (case sx_Twice_MeetError => first | rfl | k_is); (case sx_NoName_MeetError => first | rfl | k_is); (case sx_TooLong_MeetError => first | rfl | k_is); (case sx_NoCut_MeetError => first | rfl | k_is); (case sx_NotApart_MeetError => first | rfl | k_is); (case sx_NotLone_MeetError => first | rfl | k_is); (case sx_NoRow_MeetError => first | rfl | k_is); (case at_NoDeed_at => k_is); (case at_NoDrawing_at => k_is); (case at_NoDrawing_word => k_is); (case at_NoName_name => k_is); (case at_NoPaper_word => k_is); (case at_NoText_row => k_is); (case at_NoWord_at => k_is); (case at_NoYard_at => k_is); (case at_TooLong_name => k_is); (case at_Twice_name => k_is); (case yc_MeetError => k_is); (case yt_MeetError => k_is); (case yc_NoCut => k_is); (case yt_NoCut => k_is); (case yc_NoDeed => k_is); (case yt_NoDeed => k_is); (case yc_NoDrawing => k_is); (case yt_NoDrawing => k_is); (case yc_NoName => k_is); (case yt_NoName => k_is); (case yc_NoPaper => k_is); (case yt_NoPaper => k_is); (case yc_NoRow => k_is); (case yt_NoRow => k_is); (case yc_NoText => k_is); (case yt_NoText => k_is); (case yc_NoWord => k_is); (case yt_NoWord => k_is); (case yc_NoYard => k_is); (case yt_NoYard => k_is); (case yc_NotApart => k_is); (case yt_NotApart => k_is); (case yc_NotLone => k_is); (case yt_NotLone => k_is); (case yc_TooLong => k_is); (case yt_TooLong => k_is); (case yc_Twice => k_is); (case yt_Twice => k_is); (case ys_NoCut_MeetError => k_is); (case yn_NoCut_MeetError => first | rfl | decide +kernel); (case ys_NoCut_NoDeed => k_is); (case yn_NoCut_NoDeed => first | rfl | decide +kernel); (case ys_NoCut_NoDrawing => k_is); (case yn_NoCut_NoDrawing => first | rfl | decide +kernel); (case ys_NoCut_NoName => k_is); (case yn_NoCut_NoName => first | rfl | decide +kernel); (case ys_NoCut_NoPaper => k_is); (case yn_NoCut_NoPaper => first | rfl | decide +kernel); (case ys_NoCut_NoRow => k_is); (case yn_NoCut_NoRow => first | rfl | decide +kernel); (case ys_NoCut_NoText => k_is); (case yn_NoCut_NoText => first | rfl | decide +kernel); (case ys_NoCut_NoWord => k_is); (case yn_NoCut_NoWord => first | rfl | decide +kernel); (case ys_NoCut_NoYard => k_is); (case yn_NoCut_NoYard => first | rfl | decide +kernel); (case ys_NoCut_NotApart => k_is); (case yn_NoCut_NotApart => first | rfl | decide +kernel); (case ys_NoCut_NotLone => k_is); (case yn_NoCut_NotLone => first | rfl | decide +kernel); (case ys_NoCut_TooLong => k_is); (case yn_NoCut_TooLong => first | rfl | decide +kernel); (case ys_NoCut_Twice => k_is); (case yn_NoCut_Twice => first | rfl | decide +kernel); (case ys_NoCut_ValueError => k_is); (case ys_NoDeed_MeetError => k_is); (case yn_NoDeed_MeetError => first | rfl | decide +kernel); (case ys_NoDeed_NoCut => k_is); (case yn_NoDeed_NoCut => first | rfl | decide +kernel); (case ys_NoDeed_NoDrawing => k_is); (case yn_NoDeed_NoDrawing => first | rfl | decide +kernel); (case ys_NoDeed_NoName => k_is); (case yn_NoDeed_NoName => first | rfl | decide +kernel); (case ys_NoDeed_NoPaper => k_is); (case yn_NoDeed_NoPaper => first | rfl | decide +kernel); (case ys_NoDeed_NoRow => k_is); (case yn_NoDeed_NoRow => first | rfl | decide +kernel); (case ys_NoDeed_NoText => k_is); (case yn_NoDeed_NoText => first | rfl | decide +kernel); (case ys_NoDeed_NoWord => k_is); (case yn_NoDeed_NoWord => first | rfl | decide +kernel); (case ys_NoDeed_NoYard => k_is); (case yn_NoDeed_NoYard => first | rfl | decide +kernel); (case ys_NoDeed_NotApart => k_is); (case yn_NoDeed_NotApart => first | rfl | decide +kernel); (case ys_NoDeed_NotLone => k_is); (case yn_NoDeed_NotLone => first | rfl | decide +kernel); (case ys_NoDeed_TooLong => k_is); (case yn_NoDeed_TooLong => first | rfl | decide +kernel); (case ys_NoDeed_Twice => k_is); (case yn_NoDeed_Twice => first | rfl | decide +kernel); (case ys_NoDeed_ValueError => k_is); (case ys_NoDrawing_MeetError => k_is); (case yn_NoDrawing_MeetError => first | rfl | decide +kernel); (case ys_NoDrawing_NoCut => k_is); (case yn_NoDrawing_NoCut => first | rfl | decide +kernel); (case ys_NoDrawing_NoDeed => k_is); (case yn_NoDrawing_NoDeed => first | rfl | decide +kernel); (case ys_NoDrawing_NoName => k_is); (case yn_NoDrawing_NoName => first | rfl | decide +kernel); (case ys_NoDrawing_NoPaper => k_is); (case yn_NoDrawing_NoPaper => first | rfl | decide +kernel); (case ys_NoDrawing_NoRow => k_is); (case yn_NoDrawing_NoRow => first | rfl | decide +kernel); (case ys_NoDrawing_NoText => k_is); (case yn_NoDrawing_NoText => first | rfl | decide +kernel); (case ys_NoDrawing_NoWord => k_is); (case yn_NoDrawing_NoWord => first | rfl | decide +kernel); (case ys_NoDrawing_NoYard => k_is); (case yn_NoDrawing_NoYard => first | rfl | decide +kernel); (case ys_NoDrawing_NotApart => k_is); (case yn_NoDrawing_NotApart => first | rfl | decide +kernel); (case ys_NoDrawing_NotLone => k_is); (case yn_NoDrawing_NotLone => first | rfl | decide +kernel); (case ys_NoDrawing_TooLong => k_is); (case yn_NoDrawing_TooLong => first | rfl | decide +kernel); (case ys_NoDrawing_Twice => k_is); (case yn_NoDrawing_Twice => first | rfl | decide +kernel); (case ys_NoDrawing_ValueError => k_is); (case ys_NoName_MeetError => k_is); (case yn_NoName_MeetError => first | rfl | decide +kernel); (case ys_NoName_NoCut => k_is); (case yn_NoName_NoCut => first | rfl | decide +kernel); (case ys_NoName_NoDeed => k_is); (case yn_NoName_NoDeed => first | rfl | decide +kernel); (case ys_NoName_NoDrawing => k_is); (case yn_NoName_NoDrawing => first | rfl | decide +kernel); (case ys_NoName_NoPaper => k_is); (case yn_NoName_NoPaper => first | rfl | decide +kernel); (case ys_NoName_NoRow => k_is); (case yn_NoName_NoRow => first | rfl | decide +kernel); (case ys_NoName_NoText => k_is); (case yn_NoName_NoText => first | rfl | decide +kernel); (case ys_NoName_NoWord => k_is); (case yn_NoName_NoWord => first | rfl | decide +kernel); (case ys_NoName_NoYard => k_is); (case yn_NoName_NoYard => first | rfl | decide +kernel); (case ys_NoName_NotApart => k_is); (case yn_NoName_NotApart => first | rfl | decide +kernel); (case ys_NoName_NotLone => k_is); (case yn_NoName_NotLone => first | rfl | decide +kernel); (case ys_NoName_TooLong => k_is); (case yn_NoName_TooLong => first | rfl | decide +kernel); (case ys_NoName_Twice => k_is); (case yn_NoName_Twice => first | rfl | decide +kernel); (case ys_NoName_ValueError => k_is); (case ys_NoPaper_MeetError => k_is); (case yn_NoPaper_MeetError => first | rfl | decide +kernel); (case ys_NoPaper_NoCut => k_is); (case yn_NoPaper_NoCut => first | rfl | decide +kernel); (case ys_NoPaper_NoDeed => k_is); (case yn_NoPaper_NoDeed => first | rfl | decide +kernel); (case ys_NoPaper_NoDrawing => k_is); (case yn_NoPaper_NoDrawing => first | rfl | decide +kernel); (case ys_NoPaper_NoName => k_is); (case yn_NoPaper_NoName => first | rfl | decide +kernel); (case ys_NoPaper_NoRow => k_is); (case yn_NoPaper_NoRow => first | rfl | decide +kernel); (case ys_NoPaper_NoText => k_is); (case yn_NoPaper_NoText => first | rfl | decide +kernel); (case ys_NoPaper_NoWord => k_is); (case yn_NoPaper_NoWord => first | rfl | decide +kernel); (case ys_NoPaper_NoYard => k_is); (case yn_NoPaper_NoYard => first | rfl | decide +kernel); (case ys_NoPaper_NotApart => k_is); (case yn_NoPaper_NotApart => first | rfl | decide +kernel); (case ys_NoPaper_NotLone => k_is); (case yn_NoPaper_NotLone => first | rfl | decide +kernel); (case ys_NoPaper_TooLong => k_is); (case yn_NoPaper_TooLong => first | rfl | decide +kernel); (case ys_NoPaper_Twice => k_is); (case yn_NoPaper_Twice => first | rfl | decide +kernel); (case ys_NoPaper_ValueError => k_is); (case ys_NoRow_MeetError => k_is); (case yn_NoRow_MeetError => first | rfl | decide +kernel); (case ys_NoRow_NoCut => k_is); (case yn_NoRow_NoCut => first | rfl | decide +kernel); (case ys_NoRow_NoDeed => k_is); (case yn_NoRow_NoDeed => first | rfl | decide +kernel); (case ys_NoRow_NoDrawing => k_is); (case yn_NoRow_NoDrawing => first | rfl | decide +kernel); (case ys_NoRow_NoName => k_is); (case yn_NoRow_NoName => first | rfl | decide +kernel); (case ys_NoRow_NoPaper => k_is); (case yn_NoRow_NoPaper => first | rfl | decide +kernel); (case ys_NoRow_NoText => k_is); (case yn_NoRow_NoText => first | rfl | decide +kernel); (case ys_NoRow_NoWord => k_is); (case yn_NoRow_NoWord => first | rfl | decide +kernel); (case ys_NoRow_NoYard => k_is); (case yn_NoRow_NoYard => first | rfl | decide +kernel); (case ys_NoRow_NotApart => k_is); (case yn_NoRow_NotApart => first | rfl | decide +kernel); (case ys_NoRow_NotLone => k_is); (case yn_NoRow_NotLone => first | rfl | decide +kernel); (case ys_NoRow_TooLong => k_is); (case yn_NoRow_TooLong => first | rfl | decide +kernel); (case ys_NoRow_Twice => k_is); (case yn_NoRow_Twice => first | rfl | decide +kernel); (case ys_NoRow_ValueError => k_is); (case ys_NoText_MeetError => k_is); (case yn_NoText_MeetError => first | rfl | decide +kernel); (case ys_NoText_NoCut => k_is); (case yn_NoText_NoCut => first | rfl | decide +kernel); (case ys_NoText_NoDeed => k_is); (case yn_NoText_NoDeed => first | rfl | decide +kernel); (case ys_NoText_NoDrawing => k_is); (case yn_NoText_NoDrawing => first | rfl | decide +kernel); (case ys_NoText_NoName => k_is); (case yn_NoText_NoName => first | rfl | decide +kernel); (case ys_NoText_NoPaper => k_is); (case yn_NoText_NoPaper => first | rfl | decide +kernel); (case ys_NoText_NoRow => k_is); (case yn_NoText_NoRow => first | rfl | decide +kernel); (case ys_NoText_NoWord => k_is); (case yn_NoText_NoWord => first | rfl | decide +kernel); (case ys_NoText_NoYard => k_is); (case yn_NoText_NoYard => first | rfl | decide +kernel); (case ys_NoText_NotApart => k_is); (case yn_NoText_NotApart => first | rfl | decide +kernel); (case ys_NoText_NotLone => k_is); (case yn_NoText_NotLone => first | rfl | decide +kernel); (case ys_NoText_TooLong => k_is); (case yn_NoText_TooLong => first | rfl | decide +kernel); (case ys_NoText_Twice => k_is); (case yn_NoText_Twice => first | rfl | decide +kernel); (case ys_NoText_ValueError => k_is); (case ys_NoWord_MeetError => k_is); (case yn_NoWord_MeetError => first | rfl | decide +kernel); (case ys_NoWord_NoCut => k_is); (case yn_NoWord_NoCut => first | rfl | decide +kernel); (case ys_NoWord_NoDeed => k_is); (case yn_NoWord_NoDeed => first | rfl | decide +kernel); (case ys_NoWord_NoDrawing => k_is); (case yn_NoWord_NoDrawing => first | rfl | decide +kernel); (case ys_NoWord_NoName => k_is); (case yn_NoWord_NoName => first | rfl | decide +kernel); (case ys_NoWord_NoPaper => k_is); (case yn_NoWord_NoPaper => first | rfl | decide +kernel); (case ys_NoWord_NoRow => k_is); (case yn_NoWord_NoRow => first | rfl | decide +kernel); (case ys_NoWord_NoText => k_is); (case yn_NoWord_NoText => first | rfl | decide +kernel); (case ys_NoWord_NoYard => k_is); (case yn_NoWord_NoYard => first | rfl | decide +kernel); (case ys_NoWord_NotApart => k_is); (case yn_NoWord_NotApart => first | rfl | decide +kernel); (case ys_NoWord_NotLone => k_is); (case yn_NoWord_NotLone => first | rfl | decide +kernel); (case ys_NoWord_TooLong => k_is); (case yn_NoWord_TooLong => first | rfl | decide +kernel); (case ys_NoWord_Twice => k_is); (case yn_NoWord_Twice => first | rfl | decide +kernel); (case ys_NoWord_ValueError => k_is); (case ys_NoYard_MeetError => k_is); (case yn_NoYard_MeetError => first | rfl | decide +kernel); (case ys_NoYard_NoCut => k_is); (case yn_NoYard_NoCut => first | rfl | decide +kernel); (case ys_NoYard_NoDeed => k_is); (case yn_NoYard_NoDeed => first | rfl | decide +kernel); (case ys_NoYard_NoDrawing => k_is); (case yn_NoYard_NoDrawing => first | rfl | decide +kernel); (case ys_NoYard_NoName => k_is); (case yn_NoYard_NoName => first | rfl | decide +kernel); (case ys_NoYard_NoPaper => k_is); (case yn_NoYard_NoPaper => first | rfl | decide +kernel); (case ys_NoYard_NoRow => k_is); (case yn_NoYard_NoRow => first | rfl | decide +kernel); (case ys_NoYard_NoText => k_is); (case yn_NoYard_NoText => first | rfl | decide +kernel); (case ys_NoYard_NoWord => k_is); (case yn_NoYard_NoWord => first | rfl | decide +kernel); (case ys_NoYard_NotApart => k_is); (case yn_NoYard_NotApart => first | rfl | decide +kernel); (case ys_NoYard_NotLone => k_is); (case yn_NoYard_NotLone => first | rfl | decide +kernel); (case ys_NoYard_TooLong => k_is); (case yn_NoYard_TooLong => first | rfl | decide +kernel); (case ys_NoYard_Twice => k_is); (case yn_NoYard_Twice => first | rfl | decide +kernel); (case ys_NoYard_ValueError => k_is); (case ys_NotApart_MeetError => k_is); (case yn_NotApart_MeetError => first | rfl | decide +kernel); (case ys_NotApart_NoCut => k_is); (case yn_NotApart_NoCut => first | rfl | decide +kernel); (case ys_NotApart_NoDeed => k_is); (case yn_NotApart_NoDeed => first | rfl | decide +kernel); (case ys_NotApart_NoDrawing => k_is); (case yn_NotApart_NoDrawing => first | rfl | decide +kernel); (case ys_NotApart_NoName => k_is); (case yn_NotApart_NoName => first | rfl | decide +kernel); (case ys_NotApart_NoPaper => k_is); (case yn_NotApart_NoPaper => first | rfl | decide +kernel); (case ys_NotApart_NoRow => k_is); (case yn_NotApart_NoRow => first | rfl | decide +kernel); (case ys_NotApart_NoText => k_is); (case yn_NotApart_NoText => first | rfl | decide +kernel); (case ys_NotApart_NoWord => k_is); (case yn_NotApart_NoWord => first | rfl | decide +kernel); (case ys_NotApart_NoYard => k_is); (case yn_NotApart_NoYard => first | rfl | decide +kernel); (case ys_NotApart_NotLone => k_is); (case yn_NotApart_NotLone => first | rfl | decide +kernel); (case ys_NotApart_TooLong => k_is); (case yn_NotApart_TooLong => first | rfl | decide +kernel); (case ys_NotApart_Twice => k_is); (case yn_NotApart_Twice => first | rfl | decide +kernel); (case ys_NotApart_ValueError => k_is); (case ys_NotLone_MeetError => k_is); (case yn_NotLone_MeetError => first | rfl | decide +kernel); (case ys_NotLone_NoCut => k_is); (case yn_NotLone_NoCut => first | rfl | decide +kernel); (case ys_NotLone_NoDeed => k_is); (case yn_NotLone_NoDeed => first | rfl | decide +kernel); (case ys_NotLone_NoDrawing => k_is); (case yn_NotLone_NoDrawing => first | rfl | decide +kernel); (case ys_NotLone_NoName => k_is); (case yn_NotLone_NoName => first | rfl | decide +kernel); (case ys_NotLone_NoPaper => k_is); (case yn_NotLone_NoPaper => first | rfl | decide +kernel); (case ys_NotLone_NoRow => k_is); (case yn_NotLone_NoRow => first | rfl | decide +kernel); (case ys_NotLone_NoText => k_is); (case yn_NotLone_NoText => first | rfl | decide +kernel); (case ys_NotLone_NoWord => k_is); (case yn_NotLone_NoWord => first | rfl | decide +kernel); (case ys_NotLone_NoYard => k_is); (case yn_NotLone_NoYard => first | rfl | decide +kernel); (case ys_NotLone_NotApart => k_is); (case yn_NotLone_NotApart => first | rfl | decide +kernel); (case ys_NotLone_TooLong => k_is); (case yn_NotLone_TooLong => first | rfl | decide +kernel); (case ys_NotLone_Twice => k_is); (case yn_NotLone_Twice => first | rfl | decide +kernel); (case ys_NotLone_ValueError => k_is); (case ys_TooLong_MeetError => k_is); (case yn_TooLong_MeetError => first | rfl | decide +kernel); (case ys_TooLong_NoCut => k_is); (case yn_TooLong_NoCut => first | rfl | decide +kernel); (case ys_TooLong_NoDeed => k_is); (case yn_TooLong_NoDeed => first | rfl | decide +kernel); (case ys_TooLong_NoDrawing => k_is); (case yn_TooLong_NoDrawing => first | rfl | decide +kernel); (case ys_TooLong_NoName => k_is); (case yn_TooLong_NoName => first | rfl | decide +kernel); (case ys_TooLong_NoPaper => k_is); (case yn_TooLong_NoPaper => first | rfl | decide +kernel); (case ys_TooLong_NoRow => k_is); (case yn_TooLong_NoRow => first | rfl | decide +kernel); (case ys_TooLong_NoText => k_is); (case yn_TooLong_NoText => first | rfl | decide +kernel); (case ys_TooLong_NoWord => k_is); (case yn_TooLong_NoWord => first | rfl | decide +kernel); (case ys_TooLong_NoYard => k_is); (case yn_TooLong_NoYard => first | rfl | decide +kernel); (case ys_TooLong_NotApart => k_is); (case yn_TooLong_NotApart => first | rfl | decide +kernel); (case ys_TooLong_NotLone => k_is); (case yn_TooLong_NotLone => first | rfl | decide +kernel); (case ys_TooLong_Twice => k_is); (case yn_TooLong_Twice => first | rfl | decide +kernel); (case ys_TooLong_ValueError => k_is); (case ys_Twice_MeetError => k_is); (case yn_Twice_MeetError => first | rfl | decide +kernel); (case ys_Twice_NoCut => k_is); (case yn_Twice_NoCut => first | rfl | decide +kernel); (case ys_Twice_NoDeed => k_is); (case yn_Twice_NoDeed => first | rfl | decide +kernel); (case ys_Twice_NoDrawing => k_is); (case yn_Twice_NoDrawing => first | rfl | decide +kernel); (case ys_Twice_NoName => k_is); (case yn_Twice_NoName => first | rfl | decide +kernel); (case ys_Twice_NoPaper => k_is); (case yn_Twice_NoPaper => first | rfl | decide +kernel); (case ys_Twice_NoRow => k_is); (case yn_Twice_NoRow => first | rfl | decide +kernel); (case ys_Twice_NoText => k_is); (case yn_Twice_NoText => first | rfl | decide +kernel); (case ys_Twice_NoWord => k_is); (case yn_Twice_NoWord => first | rfl | decide +kernel); (case ys_Twice_NoYard => k_is); (case yn_Twice_NoYard => first | rfl | decide +kernel); (case ys_Twice_NotApart => k_is); (case yn_Twice_NotApart => first | rfl | decide +kernel); (case ys_Twice_NotLone => k_is); (case yn_Twice_NotLone => first | rfl | decide +kernel); (case ys_Twice_TooLong => k_is); (case yn_Twice_TooLong => first | rfl | decide +kernel); (case ys_Twice_ValueError => k_is)
