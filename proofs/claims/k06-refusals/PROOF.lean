import PyProof.Rows.All
import Wide.All
import OpenK.AllK
import Wide.FinOn
import HandS.ForMost
import HandS.Walk
import HandS.IsInst
import HandS.Style
import HandS.ExcOwn
import HandS.WordsExc
import HandS.TupAny
import HandS.TryOnly
import HandS.Nested
import HandS.Conv
import HandS.Rev
import KE.DataEq
import PyProof.ReprRoads
import HandS.RaiseMore
import HandS.Wide
import HandS.TupMul
import HandS.Text
import PyProof.Rows.IntBool
import HandS.Small
import PyProof.CollectIter
import PyProof.WalksMore
import HandS.ReplaceLit
import KE.KNestM
import HandS.EndTab
import KE.GoesEnum
import PyProof.ExcClass
import PyProof.Rows.FactsExc_KeyError
import HandS.ExcInit
import HandS.ExcIs
import HandS.ExcField
import HandS.ExcValue
import KE.KExcIs
import PyProof.Rows.StrSplitCount
import PyProof.Rows.StrJoinMade
import PySem.Challenge.RW_walksbyworth_k06_refusals_made
set_option Elab.async false
set_option linter.all false
set_option maxRecDepth 100000
set_option maxHeartbeats 4000000
namespace Pd
open PySem PySem.Spec PyProof.Rows L2

/-! ## data, cells, worlds -/
/-- a Python datum: deep values; a cell is a changeable object; glob a name of the module -/
inductive D where
  | non | bl (b : Bool) | int (i : Int) | str (x : Str)
  | tup (xs : List D) | lst (xs : List D) | dct (ks : List Key) (vs : List D)
  | cell (n : Nat) | glob (x : Str) | scr (ns : List Int)
  | exc (c : Str) (ks : List Str) (vs : List D)
inductive Cel where
  | lst (xs : List D) | dct (ks : List Key) (vs : List D) | dead
  | ins (cls : Str) (fs : List (Str × D))
  | clo (i : Nat) (ws : List D) (up : Bool)
abbrev Sto := List Cel
/-- the codes of the functions that are made within defs; the tables of code objects -/
class Codes where
  ho : Nat → Addr → List (Str × Addr) → Addr → HO
  ext : ∀ i f cl c, ∃ φ, ho i f cl c = .ext φ
  qual : Nat → Str
  fr : Nat → List Str
  tabs : List NdefX.NTab
def nT : HO → Bool | .tbl _ => false | _ => true
def nX : HO → Bool | .tbl _ => false | .ext _ => false | .frz _ (.own _) => false | .own _ => false | _ => true
theorem nX_frz {ob : Obj} {o : HO} (h : nX o = true) : nX (.frz ob o) = true := by cases o <;> first | rfl | cases h
/-- a cell of a name that a function captured -/
def isP : HO → Bool | .frz _ (.own _) => true | _ => false
def PyC (o : Obj) : HO := .frz o (.own 0)
def plO : HO → Bool | .tbl _ => false | .frz _ (.own _) => false | _ => true
theorem plO_isP {o : HO} (h : plO o = true) : isP o = false := by
  unfold isP
  split
  · cases h
  · rfl
theorem plO_nT {o : HO} (h : plO o = true) : nT o = true := by cases o <;> first | rfl | cases h
/-- tracked, no such cell, no table -/
def Trk (H : Hp) (a : Addr) : Prop := ∃ o, H a = some o ∧ plO o = true
theorem Trk.ne {H : Hp} {a : Addr} (h : Trk H a) : H a ≠ none := by obtain ⟨o, e, _⟩ := h; rw [e]; exact nofun
theorem isP_nX {o : HO} (h : nX o = true) : isP o = false := by
  unfold nX at h
  unfold isP
  split <;> first | rfl | (split at h <;> first | cases h | (rename_i e _ _ _ ; exact absurd rfl (e _ _)))
theorem nT_of {o : HO} (h : nX o = true) : nT o = true := by cases o <;> first | rfl | cases h
theorem nX_ext {o : HO} (h : ∃ φ, o = .ext φ) : nX o = false := by obtain ⟨φ, rfl⟩ := h; rfl
structure Cn where
  K : PySem.W.Frag
  mg : Str → Option Value
structure Wd where
  H : Hp
  A : List Addr
  st : Sto
  hid : List Addr
  pc : Nat → List (Str × Addr) × Addr

def CLive (W : Wd) (a : Addr) : Prop := ∃ (n : Nat) (c : Cel), W.A[n]? = some a ∧ W.st[n]? = some c ∧ c ≠ .dead
def Live (W : Wd) (a : Addr) : Prop := CLive W a ∨ a ∈ W.hid
def KTup (K : PySem.W.Frag) (a : Addr) (xs : List V) : Prop :=
  ∃ (o : Obj) (its : Array Value) (n : Nat), K.lookup a = some o ∧ o.cls = .type "tuple" ∧ o.data = .seq its n ∧ its.size ≤ sizeLine ∧ Vals xs its.toList
def KLst (K : PySem.W.Frag) (a : Addr) (xs : List V) : Prop :=
  ∃ (o : Obj) (its : Array Value) (n : Nat), K.lookup a = some o ∧ o.cls = .type "list" ∧ o.dict = none ∧ o.data = .seq its n ∧ its.size ≤ sizeLine ∧ Vals xs its.toList
def TupAt (K : PySem.W.Frag) (W : Wd) (a : Addr) (xs : List V) : Prop := (Rd W.H a (.tup xs) ∧ ¬ Live W a) ∨ KTup K a xs
def LstAt (K : PySem.W.Frag) (W : Wd) (a : Addr) (xs : List V) : Prop := W.H a = some (.lst xs) ∧ ¬ Live W a
def ScrAt (K : PySem.W.Frag) (W : Wd) (a : Addr) (xs : List V) : Prop := (Rd W.H a (.lst xs) ∧ ¬ Live W a) ∨ KLst K a xs
theorem TupAt.sq {K : PySem.W.Frag} {W : Wd} {a : Addr} {xs : List V} (h : TupAt K W a xs) : SqT K W.H a xs := by
  rcases h with h | h
  · exact .inl h.1
  · exact .inr h
theorem LstAt.sq {K : PySem.W.Frag} {W : Wd} {a : Addr} {xs : List V} (h : LstAt K W a xs) : SqL K W.H a xs := SqL.of h.1
theorem ScrAt.sq {K : PySem.W.Frag} {W : Wd} {a : Addr} {xs : List V} (h : ScrAt K W a xs) : SqL K W.H a xs := by
  rcases h with h | h
  · exact .inl h.1
  · exact .inr h

/-- an exception's object, its class and its own dict -/
def ExcAt (C : Cn) (W : Wd) (a : Addr) (c : Str) (kvs : List (Str × V)) : Prop :=
  ∃ (Ca : Addr) (oe : Obj), C.mg c = some (.ref Ca) ∧ W.H a = some (.frz oe (.ext fun _ => True)) ∧ ¬ Live W a ∧ oe.cls = .ref Ca ∧ (∃ vs, oe.data = .fields vs) ∧
    ((oe.dict = none ∧ kvs = []) ∨ ∃ dx, oe.dict = some dx ∧ W.H dx = some (.xd kvs) ∧ ¬ Live W dx)
mutual
/-- the value v stands for the datum -/
def Rep (C : Cn) (W : Wd) : D → V → Prop
  | .non, v => v = .non
  | .bl b, v => v = .bl b
  | .int i, v => v = .int i
  | .str x, v => v = .str x
  | .tup ds, v => ∃ a xs, v = .ref a ∧ TupAt C.K W a xs ∧ RepL C W ds xs
  | .lst ds, v => ∃ a xs, v = .ref a ∧ LstAt C.K W a xs ∧ RepL C W ds xs
  | .dct ks ds, v => ∃ a xs, v = .ref a ∧ W.H a = some (.dK (ks.zip xs)) ∧ ¬ Live W a ∧ ks.length = xs.length ∧ RepL C W ds xs
  | .cell n, v => ∃ a, v = .ref a ∧ W.A[n]? = some a
  | .glob x, v => ∃ a, v = .ref a ∧ C.mg x = some (.ref a)
  | .scr ns, v => ∃ a, v = .ref a ∧ ScrAt C.K W a (ns.map V.int)
  | .exc c ks ds, v => ∃ a xs, v = .ref a ∧ ExcAt C W a c (ks.zip xs) ∧ ks.length = xs.length ∧ RepL C W ds xs
def RepL (C : Cn) (W : Wd) : List D → List V → Prop
  | [], vs => vs = []
  | d :: ds, vs => ∃ v r, vs = v :: r ∧ Rep C W d v ∧ RepL C W ds r
end

/-- one world goes on in another -/
structure Ext (W W' : Wd) : Prop where
  pre : W.A <+: W'.A
  hid : W'.hid = W.hid
  keep : ∀ a o, W.H a = some o → nT o = true → ¬ CLive W a → W'.H a = some o ∧ ¬ CLive W' a
  new : ∀ a, a ∈ W'.A → a ∈ W.A ∨ ∀ o, W.H a = some o → nX o = false
  pc : ∀ n, n < W.A.length → W'.pc n = W.pc n
  tr : ∀ a, W'.H a = none → W.H a = none
theorem CLive.mem {W : Wd} {a : Addr} (h : CLive W a) : a ∈ W.A := let ⟨_, _, h1, _, _⟩ := h; List.mem_of_getElem? h1
theorem Ext.refl (W : Wd) : Ext W W := ⟨List.prefix_refl _, rfl, fun _ _ h _ n => ⟨h, n⟩, fun _ h => .inl h, fun _ _ => rfl, fun _ h => h⟩
theorem Ext.trans {W W1 W2 : Wd} (a : Ext W W1) (b : Ext W1 W2) : Ext W W2 :=
  ⟨a.pre.trans b.pre, b.hid.trans a.hid, fun c o h hn n => let ⟨h1, n1⟩ := a.keep c o h hn n; b.keep c o h1 hn n1, fun c h => (b.new c h).elim (a.new c) fun z => by
    by_cases l : CLive W c
    · exact .inl l.mem
    · refine .inr fun o e => ?_
      cases k : nX o with
      | false => rfl
      | true => exact k.symm.trans (z o (a.keep c o e (nT_of k) l).1),
    fun n hn => (b.pc n (Nat.lt_of_lt_of_le hn a.pre.length_le)).trans (a.pc n hn), fun c h => a.tr c (b.tr c h)⟩
/-- what stood for a datum stands for it -/
structure Mn (W W' : Wd) : Prop where
  pre : W.A <+: W'.A
  keep : ∀ a o, W.H a = some o → nX o = true → ¬ Live W a → W'.H a = some o ∧ ¬ Live W' a
theorem Ext.mn {W W' : Wd} (e : Ext W W') : Mn W W' := ⟨e.pre, fun a o h hn n => by
  obtain ⟨h1, n1⟩ := e.keep a o h (nT_of hn) fun z => n (.inl z)
  refine ⟨h1, fun z => ?_⟩
  rcases z with z | z
  · exact n1 z
  · exact n (.inr (e.hid ▸ z))⟩
theorem Mn.refl (W : Wd) : Mn W W := (Ext.refl W).mn
theorem Mn.trans {W W1 W2 : Wd} (a : Mn W W1) (b : Mn W1 W2) : Mn W W2 :=
  ⟨a.pre.trans b.pre, fun c o h hn n => let ⟨h1, n1⟩ := a.keep c o h hn n; b.keep c o h1 hn n1⟩
theorem pre_get {α : Type} {l m : List α} (h : l <+: m) {n : Nat} {a : α} (e : l[n]? = some a) : m[n]? = some a := by
  obtain ⟨t, rfl⟩ := h
  have hl : n < l.length := (List.getElem?_eq_some_iff.mp e).1
  rw [List.getElem?_append_left hl]; exact e
section
variable {C : Cn} {W W' : Wd}
theorem Rd.mn {a : Addr} {o : HO} (e : Mn W W') (hn : nX o = true) (h : Rd W.H a o) (n : ¬ Live W a) : Rd W'.H a o ∧ ¬ Live W' a := by
  rcases h with h | ⟨ob, h⟩
  · obtain ⟨h1, n1⟩ := e.keep a _ h hn n
    exact ⟨.inl h1, n1⟩
  · obtain ⟨h1, n1⟩ := e.keep a _ h (nX_frz hn) n
    exact ⟨.inr ⟨ob, h1⟩, n1⟩
mutual
theorem Rep.mn (e : Mn W W') : ∀ {d : D} {v : V}, Rep C W d v → Rep C W' d v
  | .non, _, h => h
  | .bl _, _, h => h
  | .int _, _, h => h
  | .str _, _, h => h
  | .tup ds, v, h => by
    unfold Rep at h ⊢
    obtain ⟨a, xs, ev, ht, hr⟩ := h
    refine ⟨a, xs, ev, ?_, RepL.mn e hr⟩
    rcases ht with ⟨h1, h2⟩ | h1
    · exact .inl (Rd.mn e rfl h1 h2)
    · exact .inr h1
  | .lst ds, v, h => by
    unfold Rep at h ⊢
    obtain ⟨a, xs, ev, ht, hr⟩ := h
    exact ⟨a, xs, ev, e.keep a _ ht.1 rfl ht.2, RepL.mn e hr⟩
  | .dct ks ds, v, h => by
    unfold Rep at h ⊢
    obtain ⟨a, xs, ev, h1, h2, hl, hr⟩ := h
    obtain ⟨h3, h4⟩ := e.keep a _ h1 rfl h2
    exact ⟨a, xs, ev, h3, h4, hl, RepL.mn e hr⟩
  | .cell n, v, h => by
    unfold Rep at h ⊢
    obtain ⟨a, ev, ha⟩ := h
    exact ⟨a, ev, pre_get e.pre ha⟩
  | .glob x, v, h => by
    unfold Rep at h ⊢
    exact h
  | .exc c ks ds, v, h => by
    unfold Rep at h ⊢
    obtain ⟨a, xs, ev, ⟨Ca, oe, h1, h2, h3, h4, h5, h6⟩, hl, hr⟩ := h
    obtain ⟨k1, k2⟩ := e.keep a _ h2 rfl h3
    refine ⟨a, xs, ev, ⟨Ca, oe, h1, k1, k2, h4, h5, ?_⟩, hl, RepL.mn e hr⟩
    rcases h6 with h6 | ⟨dx, q1, q2, q3⟩
    · exact .inl h6
    · obtain ⟨k3, k4⟩ := e.keep dx _ q2 rfl q3
      exact .inr ⟨dx, q1, k3, k4⟩
  | .scr ns, v, h => by
    unfold Rep at h ⊢
    obtain ⟨a, ev, ht⟩ := h
    refine ⟨a, ev, ?_⟩
    rcases ht with ⟨h1, h2⟩ | h1
    · exact .inl (Rd.mn e rfl h1 h2)
    · exact .inr h1
theorem RepL.mn (e : Mn W W') : ∀ {ds : List D} {vs : List V}, RepL C W ds vs → RepL C W' ds vs
  | [], _, h => by unfold RepL at h ⊢; exact h
  | d :: ds, vs, h => by
    unfold RepL at h ⊢
    obtain ⟨v, r, ev, h1, h2⟩ := h
    exact ⟨v, r, ev, Rep.mn e h1, RepL.mn e h2⟩
end
theorem Rep.ext {d : D} {v : V} (h : Rep C W d v) (e : Ext W W') : Rep C W' d v := Rep.mn e.mn h
theorem RepL.ext {ds : List D} {vs : List V} (h : RepL C W ds vs) (e : Ext W W') : RepL C W' ds vs := RepL.mn e.mn h
theorem RepL.nil : RepL C W [] [] := by unfold RepL; rfl
theorem RepL.cons {d : D} {v : V} {ds : List D} {vs : List V} (h : Rep C W d v) (t : RepL C W ds vs) : RepL C W (d :: ds) (v :: vs) := by
  unfold RepL; exact ⟨v, vs, rfl, h, t⟩
theorem RepL.length : ∀ {ds : List D} {vs : List V}, RepL C W ds vs → ds.length = vs.length
  | [], _, h => by unfold RepL at h; subst h; rfl
  | d :: ds, vs, h => by
    unfold RepL at h
    obtain ⟨v, r, rfl, h1, h2⟩ := h
    rw [List.length_cons, List.length_cons, RepL.length h2]
theorem RepL.nil_inv {vs : List V} (h : RepL C W [] vs) : vs = [] := by unfold RepL at h; exact h
theorem RepL.cons_inv {d : D} {ds : List D} {vs : List V} (h : RepL C W (d :: ds) vs) : ∃ v r, vs = v :: r ∧ Rep C W d v ∧ RepL C W ds r := by unfold RepL at h; exact h
theorem RepL.append : ∀ {ds es : List D} {vs us : List V}, RepL C W ds vs → RepL C W es us → RepL C W (ds ++ es) (vs ++ us)
  | [], es, vs, us, h, k => by rw [h.nil_inv]; exact k
  | d :: ds, es, vs, us, h, k => by
    obtain ⟨v, r, rfl, h1, h2⟩ := h.cons_inv
    exact .cons h1 (RepL.append h2 k)
theorem RepL.get : ∀ {ds : List D} {vs : List V} {i : Nat} {d : D}, RepL C W ds vs → ds[i]? = some d → ∃ v, vs[i]? = some v ∧ Rep C W d v
  | [], _, _, _, h, e => by simp at e
  | d :: ds, vs, 0, _, h, e => by
    obtain ⟨v, r, rfl, h1, h2⟩ := h.cons_inv
    simp at e; subst e
    exact ⟨v, rfl, h1⟩
  | d :: ds, vs, i + 1, _, h, e => by
    obtain ⟨v, r, rfl, h1, h2⟩ := h.cons_inv
    simp at e
    obtain ⟨u, hu, hr⟩ := RepL.get h2 e
    exact ⟨u, by simpa using hu, hr⟩
theorem RepL.getV {ds : List D} {vs : List V} {i : Nat} {v : V} (h : RepL C W ds vs) (e : vs[i]? = some v) : ∃ d, ds[i]? = some d ∧ Rep C W d v := by
  have hl := h.length
  have hi : i < ds.length := by rw [hl]; exact (List.getElem?_eq_some_iff.mp e).1
  obtain ⟨u, hu, hr⟩ := h.get (List.getElem?_eq_getElem hi)
  rw [e] at hu; cases hu
  exact ⟨_, List.getElem?_eq_getElem hi, hr⟩
theorem RepL.take : ∀ {ds : List D} {vs : List V} (n : Nat), RepL C W ds vs → RepL C W (ds.take n) (vs.take n)
  | _, _, 0, h => by simp only [List.take_zero]; exact .nil
  | [], _, n + 1, h => by rw [h.nil_inv]; simp only [List.take_nil]; exact .nil
  | d :: ds, vs, n + 1, h => by
    obtain ⟨v, r, rfl, h1, h2⟩ := h.cons_inv
    exact .cons h1 (RepL.take n h2)
theorem RepL.drop : ∀ {ds : List D} {vs : List V} (n : Nat), RepL C W ds vs → RepL C W (ds.drop n) (vs.drop n)
  | _, _, 0, h => h
  | [], _, n + 1, h => by rw [h.nil_inv]; simp only [List.drop_nil]; exact .nil
  | d :: ds, vs, n + 1, h => by
    obtain ⟨v, r, rfl, h1, h2⟩ := h.cons_inv
    exact RepL.drop n h2
theorem RepL.set : ∀ {ds : List D} {vs : List V} {d : D} {v : V} (i : Nat), RepL C W ds vs → Rep C W d v → RepL C W (ds.set i d) (vs.set i v)
  | [], _, _, _, _, h, _ => by rw [h.nil_inv]; exact .nil
  | d :: ds, vs, _, _, 0, h, k => by
    obtain ⟨v, r, rfl, h1, h2⟩ := h.cons_inv
    exact .cons k h2
  | d :: ds, vs, _, _, i + 1, h, k => by
    obtain ⟨v, r, rfl, h1, h2⟩ := h.cons_inv
    exact .cons h1 (RepL.set i h2 k)
theorem RepL.reverse {ds : List D} {vs : List V} (h : RepL C W ds vs) : RepL C W ds.reverse vs.reverse := by
  induction ds generalizing vs with
  | nil => rw [h.nil_inv]; exact .nil
  | cons d ds ih =>
    obtain ⟨v, r, rfl, h1, h2⟩ := h.cons_inv
    rw [List.reverse_cons, List.reverse_cons]
    exact (ih h2).append (.cons h1 .nil)
theorem RepL.dropLast {ds : List D} {vs : List V} (h : RepL C W ds vs) : RepL C W ds.dropLast vs.dropLast := by
  rw [List.dropLast_eq_take, List.dropLast_eq_take, h.length]; exact h.take _
theorem RepL.eraseIdx : ∀ {ds : List D} {vs : List V} (i : Nat), RepL C W ds vs → RepL C W (ds.eraseIdx i) (vs.eraseIdx i)
  | [], _, _, h => by rw [h.nil_inv]; exact .nil
  | d :: ds, vs, 0, h => by
    obtain ⟨v, r, rfl, h1, h2⟩ := h.cons_inv
    exact h2
  | d :: ds, vs, i + 1, h => by
    obtain ⟨v, r, rfl, h1, h2⟩ := h.cons_inv
    exact .cons h1 (RepL.eraseIdx i h2)
theorem RepL.replicate {d : D} {v : V} (h : Rep C W d v) : ∀ n : Nat, RepL C W (List.replicate n d) (List.replicate n v)
  | 0 => .nil
  | n + 1 => .cons h (RepL.replicate h n)
theorem RepL.ints {ns : List Int} {vs : List V} (h : RepL C W (ns.map D.int) vs) : vs = ns.map V.int := by
  induction ns generalizing vs with
  | nil => exact h.nil_inv
  | cons n ns ih =>
    obtain ⟨v, r, rfl, h1, h2⟩ := h.cons_inv
    unfold Rep at h1
    subst h1
    rw [ih h2]; rfl
theorem RepL.strs {ns : List Str} {vs : List V} (h : RepL C W (ns.map D.str) vs) : vs = ns.map V.str := by
  induction ns generalizing vs with
  | nil => exact h.nil_inv
  | cons n ns ih =>
    obtain ⟨v, r, rfl, h1, h2⟩ := h.cons_inv
    unfold Rep at h1
    subst h1
    rw [ih h2]; rfl
theorem RepL.bls {ns : List Bool} {vs : List V} (h : RepL C W (ns.map D.bl) vs) : vs = ns.map V.bl := by
  induction ns generalizing vs with
  | nil => exact h.nil_inv
  | cons n ns ih =>
    obtain ⟨v, r, rfl, h1, h2⟩ := h.cons_inv
    unfold Rep at h1
    subst h1
    rw [ih h2]; rfl
theorem RepL.of_strs (ns : List Str) : RepL C W (ns.map D.str) (ns.map V.str) := by
  induction ns with
  | nil => exact .nil
  | cons n ns ih => exact .cons (by unfold Rep; rfl) ih
theorem RepL.of_ints (ns : List Int) : RepL C W (ns.map D.int) (ns.map V.int) := by
  induction ns with
  | nil => exact .nil
  | cons n ns ih => exact .cons (by unfold Rep; rfl) ih
theorem Rep.tup_inv {ds : List D} {v : V} (h : Rep C W (.tup ds) v) : ∃ a xs, v = .ref a ∧ TupAt C.K W a xs ∧ RepL C W ds xs := by unfold Rep at h; exact h
theorem Rep.lst_inv {ds : List D} {v : V} (h : Rep C W (.lst ds) v) : ∃ a xs, v = .ref a ∧ LstAt C.K W a xs ∧ RepL C W ds xs := by unfold Rep at h; exact h
theorem Rep.cell_inv {n : Nat} {v : V} (h : Rep C W (.cell n) v) : ∃ a, v = .ref a ∧ W.A[n]? = some a := by unfold Rep at h; exact h
theorem Rep.int_inv {i : Int} {v : V} (h : Rep C W (.int i) v) : v = .int i := by unfold Rep at h; exact h
theorem Rep.bl_inv {i : Bool} {v : V} (h : Rep C W (.bl i) v) : v = .bl i := by unfold Rep at h; exact h
theorem Rep.str_inv {i : Str} {v : V} (h : Rep C W (.str i) v) : v = .str i := by unfold Rep at h; exact h
theorem Rep.non_inv {v : V} (h : Rep C W .non v) : v = .non := by unfold Rep at h; exact h
theorem Rep.int (i : Int) : Rep C W (.int i) (.int i) := by unfold Rep; rfl
theorem Rep.bl (i : Bool) : Rep C W (.bl i) (.bl i) := by unfold Rep; rfl
theorem Rep.str (i : Str) : Rep C W (.str i) (.str i) := by unfold Rep; rfl
theorem Rep.non : Rep C W .non .non := by unfold Rep; rfl
end

/-- what the captured names of a function hold: its cells are told of, each with its very object -/
def CapT [Codes] (C : Cn) (W : Wd) : List (Str × Addr) → List D → Prop
  | [], ds => ds = []
  | p :: cl, ds => ∃ d r o u v, ds = d :: r ∧ W.H p.2 = some (PyC o) ∧ o.data = .cell (some u) ∧ RelV v u ∧ Rep C W d v ∧ CapT C W cl r
/-- a cell as it stands -/
def CellAt [Codes] (C : Cn) (W : Wd) (pc : List (Str × Addr) × Addr) : Cel → Addr → Prop
  | .lst ds, a => ∃ xs, W.H a = some (.lst xs) ∧ RepL C W ds xs
  | .dct ks ds, a => ∃ xs, W.H a = some (.dK (ks.zip xs)) ∧ ks.length = xs.length ∧ RepL C W ds xs
  | .dead, a => Trk W.H a
  | .ins x fs, a => ∃ Ca dx xs, C.mg x = some (.ref Ca) ∧ W.H a = some (.ins Ca dx ((fs.map (·.1)).zip xs)) ∧ RepL C W (fs.map (·.2)) xs
  | .clo i ws up, a => W.H a = some (Codes.ho i a pc.1 pc.2) ∧ W.H pc.2 = some (LamX.CodeO pc.2 (Codes.qual i)) ∧ pc.1.map (·.1) = Codes.fr i ∧ (pc.1.map (·.2)).Nodup ∧ (up = false → CapT C W pc.1 ws)
def Cel.box : Cel → Bool | .lst _ => true | .dct _ _ => true | .ins _ _ => true | _ => false
def Cel.up : Cel → Bool | .clo _ _ b => !b | _ => false
structure WOk [Codes] (C : Cn) (W : Wd) : Prop where
  len : W.A.length = W.st.length
  nd : W.A.Nodup
  at_ : ∀ (n : Nat) (a : Addr) (c : Cel), W.A[n]? = some a → W.st[n]? = some c → CellAt C W (W.pc n) c a
  hidT : ∀ a ∈ W.hid, Trk W.H a
  tabs : NdefX.TabsN Codes.tabs W.H
  pcd : ∀ (n m : Nat) (c d : Cel), n ≠ m → W.st[n]? = some c → W.st[m]? = some d → c.up = true → d.up = true → ∀ b ∈ (W.pc n).1.map (·.2), b ∉ (W.pc m).1.map (·.2)
  hidA : ∀ a ∈ W.hid, a ∉ W.A
section
variable [Codes] {C : Cn} {W W' : Wd}
theorem isP_not {o : HO} (h : isP o = true) : nX o = false := by
  cases k : nX o with
  | false => rfl
  | true => rw [isP_nX k] at h; cases h
theorem CapT.mv (m : Mn W W') : ∀ {cl : List (Str × Addr)} {ds : List D}, (∀ b ∈ cl.map (·.2), ∀ o, W.H b = some o → isP o = true → W'.H b = some o) → CapT C W cl ds → CapT C W' cl ds
  | [], _, _, h => by unfold CapT at h ⊢; exact h
  | p :: cl, ds, hX, h => by
    unfold CapT at h ⊢
    obtain ⟨d, r, o, u, v, e, h1, h2, h3, h4, h5⟩ := h
    exact ⟨d, r, o, u, v, e, hX _ List.mem_cons_self _ h1 rfl, h2, h3, h4.mn m, CapT.mv m (fun b hb => hX b (List.mem_cons_of_mem _ hb)) h5⟩
theorem CellAt.tracked {pc : List (Str × Addr) × Addr} {c : Cel} {a : Addr} (h : CellAt C W pc c a) : W.H a ≠ none := by
  cases c with
  | lst ds => obtain ⟨xs, e, _⟩ := h; rw [e]; exact nofun
  | dct ks ds => obtain ⟨xs, e, _⟩ := h; rw [e]; exact nofun
  | dead => exact h.ne
  | ins x fs => obtain ⟨_, _, xs, _, e, _⟩ := h; rw [e]; exact nofun
  | clo i ws up => rw [h.1]; exact nofun
/-- a box's object is no function, no table -/
theorem CellAt.boxO {pc : List (Str × Addr) × Addr} {c : Cel} {a : Addr} (h : CellAt C W pc c a) (hb : c.box = true) : ∃ o, W.H a = some o ∧ nX o = true := by
  cases c with
  | lst ds => obtain ⟨xs, e, _⟩ := h; exact ⟨_, e, rfl⟩
  | dct ks ds => obtain ⟨xs, e, _⟩ := h; exact ⟨_, e, rfl⟩
  | ins x fs => obtain ⟨_, _, xs, _, e, _⟩ := h; exact ⟨_, e, rfl⟩
  | _ => cases hb
theorem CellAt.mv {pc : List (Str × Addr) × Addr} {c : Cel} {a : Addr} (h : CellAt C W pc c a) (m : Mn W W') (hX : ∀ b o, W.H b = some o → nX o = false → isP o = false → nT o = true → W'.H b = some o) (hP : c.up = true → ∀ b ∈ pc.1.map (·.2), ∀ o, W.H b = some o → isP o = true → W'.H b = some o)
    (ha : c.box = true → W'.H a = W.H a) (ht : Trk W.H a → Trk W'.H a) : CellAt C W' pc c a := by
  cases c with
  | lst ds => obtain ⟨xs, q, r⟩ := h; exact ⟨xs, by rw [ha rfl]; exact q, r.mn m⟩
  | dct ks ds => obtain ⟨xs, q, l, r⟩ := h; exact ⟨xs, by rw [ha rfl]; exact q, l, r.mn m⟩
  | dead => exact ht h
  | ins x fs => obtain ⟨Ca, dx, xs, h1, h2, h3⟩ := h; exact ⟨Ca, dx, xs, h1, by rw [ha rfl]; exact h2, h3.mn m⟩
  | clo i ws up =>
    obtain ⟨h1, h2, h3, h4, h5⟩ := h
    obtain ⟨φ, eφ⟩ := Codes.ext i a pc.1 pc.2
    refine ⟨?_, hX _ _ h2 rfl rfl rfl, h3, h4, fun z => (h5 z).mv m (hP (by subst z; rfl))⟩
    rw [eφ] at h1 ⊢
    exact hX _ _ h1 rfl rfl rfl
theorem tabs_mv {H H' : Hp} {T : List NdefX.NTab} (t : NdefX.TabsN T H) (hX : ∀ b o, H b = some o → nX o = false → isP o = false → H' b = some o) : NdefX.TabsN T H' := fun p hp => by
  obtain ⟨ps, h1, h2, h3⟩ := t p hp
  refine ⟨ps, hX _ _ h1 rfl rfl, h2, fun pos cv hc => ?_⟩
  obtain ⟨c, e1, e2⟩ := h3 pos cv hc
  exact ⟨c, e1, hX _ _ e2 rfl rfl⟩
theorem WOk.mk' (ok : WOk C W) (hA : W'.A = W.A) (hst : W'.st = W.st) (hpc : W'.pc = W.pc) (m : Mn W W') (hX : ∀ b o, W.H b = some o → nX o = false → W'.H b = some o)
    (hH : ∀ (n : Nat) (a : Addr) (c : Cel), W.A[n]? = some a → W.st[n]? = some c → c.box = true → W'.H a = W.H a) (ht : ∀ a, Trk W.H a → Trk W'.H a) (hh : ∀ a ∈ W'.hid, Trk W'.H a) (hi : ∀ a ∈ W'.hid, a ∉ W.A) : WOk C W' := by
  refine ⟨by rw [hA, hst]; exact ok.len, by rw [hA]; exact ok.nd, fun n a c h1 h2 => ?_, hh, tabs_mv ok.tabs fun b o h k _ => hX b o h k, fun n k c d => by rw [hst, hpc]; exact ok.pcd n k c d, fun a h => by rw [hA]; exact hi a h⟩
  rw [hA] at h1
  rw [hst] at h2
  rw [hpc]
  exact (ok.at_ n a c h1 h2).mv m (fun b o h k _ _ => hX b o h k) (fun _ b _ o h k => hX b o h (isP_not k)) (hH n a c h1 h2) (ht a)
theorem WOk.not_live (ok : WOk C W) {p : Addr} (hp : W.H p = none) : ¬ Live W p := fun z => by
  rcases z with ⟨n, c, h1, h2, _⟩ | z
  · exact (ok.at_ n p c h1 h2).tracked hp
  · exact (ok.hidT p z).ne hp
theorem WOk.fresh (ok : WOk C W) {p : Addr} (hp : W.H p = none) : p ∉ W.A := fun z => by
  obtain ⟨n, hn, e⟩ := List.getElem_of_mem z
  have h2 : n < W.st.length := by rw [← ok.len]; exact hn
  exact (ok.at_ n p _ (List.getElem?_eq_some_iff.mpr ⟨hn, e⟩) (List.getElem?_eq_getElem h2)).tracked hp
/-- a new object that never changes -/
def Wd.lay (W : Wd) (p : Addr) (o : HO) : Wd := { W with H := upd W.H p o }
theorem upd_old {H : Hp} {p : Addr} (hp : H p = none) (o : HO) {b : Addr} {u : HO} (h : H b = some u) : upd H p o b = some u := by rw [upd_ne (ne_of_none h hp)]; exact h
theorem upd_there {H : Hp} {p : Addr} {o : HO} (ho : plO o = true) {b : Addr} (h : Trk H b) : Trk (upd H p o) b := by
  by_cases z : b = p
  · subst z; exact ⟨o, upd_same, ho⟩
  · unfold Trk; rw [upd_ne z]; exact h
theorem upd_gone {H : Hp} {p : Addr} {o : HO} {b : Addr} (h : upd H p o b = none) : H b = none := by
  by_cases z : b = p
  · subst z; rw [upd_same] at h; cases h
  · rw [upd_ne z] at h; exact h
theorem lay_ext (ok : WOk C W) {p : Addr} (hp : W.H p = none) (o : HO) : Ext W (W.lay p o) :=
  ⟨List.prefix_refl _, rfl, fun a u h _ n => ⟨upd_old hp o h, n⟩, fun _ h => .inl h, fun _ _ => rfl, fun a h => upd_gone h⟩
theorem lay_ok (ok : WOk C W) {p : Addr} (hp : W.H p = none) (o : HO) (ho : plO o = true := by rfl) : WOk C (W.lay p o) :=
  ok.mk' rfl rfl rfl (lay_ext ok hp o).mn (fun b u h _ => upd_old hp o h) (fun n a c h1 h2 _ => by
    show upd W.H p o a = _
    rw [upd_ne fun z => (ok.at_ n a c h1 h2).tracked (by rw [z]; exact hp)]) (fun a h => upd_there ho h) (fun a h => upd_there ho (ok.hidT a h)) ok.hidA
theorem lay_not_live (ok : WOk C W) {p : Addr} (hp : W.H p = none) (o : HO) : ¬ Live (W.lay p o) p := fun z => ok.not_live hp z
theorem lay_tup (ok : WOk C W) {p : Addr} (hp : W.H p = none) {ds : List D} {xs : List V} (r : RepL C W ds xs) : Rep C (W.lay p (.tup xs)) (.tup ds) (.ref p) := by
  unfold Rep
  exact ⟨p, xs, rfl, .inl ⟨.inl upd_same, lay_not_live ok hp _⟩, r.ext (lay_ext ok hp _)⟩
theorem lay_lst (ok : WOk C W) {p : Addr} (hp : W.H p = none) {ds : List D} {xs : List V} (r : RepL C W ds xs) : Rep C (W.lay p (.lst xs)) (.lst ds) (.ref p) := by
  unfold Rep
  exact ⟨p, xs, rfl, ⟨upd_same, lay_not_live ok hp _⟩, r.ext (lay_ext ok hp _)⟩
theorem lay_dct (ok : WOk C W) {p : Addr} (hp : W.H p = none) {ks : List Key} {ds : List D} {xs : List V} (hl : ks.length = xs.length) (r : RepL C W ds xs) : Rep C (W.lay p (.dK (ks.zip xs))) (.dct ks ds) (.ref p) := by
  unfold Rep
  exact ⟨p, xs, rfl, upd_same, lay_not_live ok hp _, hl, r.ext (lay_ext ok hp _)⟩
/-- one more changeable object is told of: its object stands already -/
def Wd.app (W : Wd) (p : Addr) (c : Cel) : Wd := { W with A := W.A ++ [p], st := W.st ++ [c] }
theorem app_cases {α : Type} {l : List α} {x y : α} {k : Nat} (h : (l ++ [x])[k]? = some y) : (k < l.length ∧ l[k]? = some y) ∨ (k = l.length ∧ y = x) := by
  by_cases hk : k < l.length
  · rw [List.getElem?_append_left hk] at h; exact .inl ⟨hk, h⟩
  · have hk' : k = l.length := by
      have := (List.getElem?_eq_some_iff.mp h).1
      rw [List.length_append, List.length_singleton] at this
      omega
    subst hk'
    simp at h
    exact .inr ⟨rfl, h.symm⟩
theorem app_live {W1 : Wd} (ok : WOk C W) {p a : Addr} {c : Cel} (hA : W1.A = W.A ++ [p]) (hst : W1.st = W.st ++ [c]) (h : CLive W1 a) : CLive W a ∨ a = p := by
  obtain ⟨k, d, e1, e2, h3⟩ := h
  rw [hA] at e1
  rw [hst] at e2
  rcases app_cases e1 with ⟨k1, h1⟩ | ⟨k1, h1⟩
  · rcases app_cases e2 with ⟨k2, h2⟩ | ⟨k2, h2⟩
    · exact .inl ⟨k, d, h1, h2, h3⟩
    · rw [ok.len] at k1; omega
  · exact .inr h1
theorem WOk.app' {W1 : Wd} (ok : WOk C W) {p : Addr} {c : Cel} (hA : W1.A = W.A ++ [p]) (hst : W1.st = W.st ++ [c]) (hpc : ∀ n, n < W.A.length → W1.pc n = W.pc n) (m : Mn W W1) (tb : NdefX.TabsN Codes.tabs W1.H) (hX : ∀ b o, W.H b = some o → nX o = false → nT o = true → W1.H b = some o)
    (hH : ∀ (n : Nat) (a : Addr) (c : Cel), W.A[n]? = some a → W.st[n]? = some c → c.box = true → W1.H a = W.H a) (ht : ∀ a, Trk W.H a → Trk W1.H a) (hh : ∀ a ∈ W1.hid, Trk W1.H a) (hi : ∀ a ∈ W1.hid, a ∉ W.A ∧ a ≠ p)
    (hf : p ∉ W.A) (hu : c.up = false ∨ ∀ (n : Nat) (d : Cel), W.st[n]? = some d → d.up = true → ∀ b ∈ (W.pc n).1.map (·.2), b ∉ (W1.pc W.A.length).1.map (·.2)) (hc : CellAt C W1 (W1.pc W.A.length) c p) : WOk C W1 := by
  have ln : ∀ {n : Nat} {d : Cel}, W.st[n]? = some d → n < W.A.length := fun h => by rw [ok.len]; exact (List.getElem?_eq_some_iff.mp h).1
  refine ⟨?_, ?_, fun n a d e1 e2 => ?_, hh, tb, fun n k d d' hk e1 e2 u1 u2 => ?_, fun a h => by rw [hA, List.mem_append, List.mem_singleton]; exact fun z => z.elim (hi a h).1 (hi a h).2⟩
  · rw [hA, hst, List.length_append, List.length_append, ok.len]; rfl
  · rw [hA, List.nodup_append]
    refine ⟨ok.nd, by simp, fun a ha b hb => ?_⟩
    simp at hb; subst hb
    exact fun z => hf (z ▸ ha)
  · rw [hA] at e1
    rw [hst] at e2
    rcases app_cases e1 with ⟨k1, h1⟩ | ⟨k1, h1⟩
    · rcases app_cases e2 with ⟨k2, h2⟩ | ⟨k2, h2⟩
      · rw [hpc n k1]
        exact (ok.at_ n a d h1 h2).mv m (fun b o h k _ t => hX b o h k t) (fun _ b _ o h k => hX b o h (isP_not k) (by cases o <;> first | rfl | cases k)) (hH n a d h1 h2) (ht a)
      · rw [ok.len] at k1; omega
    · rcases app_cases e2 with ⟨k2, h2⟩ | ⟨k2, h2⟩
      · rw [← ok.len] at k2; omega
      · rw [k1, h1, h2]; exact hc
  · rw [hst] at e1 e2
    rcases app_cases e1 with ⟨k1, h1⟩ | ⟨k1, h1⟩
    · rcases app_cases e2 with ⟨k2, h2⟩ | ⟨k2, h2⟩
      · rw [hpc n (ln h1), hpc k (ln h2)]
        exact ok.pcd n k d d' hk h1 h2 u1 u2
      · rw [h2] at u2
        rcases hu with hu | hu
        · rw [hu] at u2; cases u2
        · rw [hpc n (ln h1), k2, ← ok.len]
          exact hu n d h1 u1
    · rcases app_cases e2 with ⟨k2, h2⟩ | ⟨k2, h2⟩
      · rw [h1] at u1
        rcases hu with hu | hu
        · rw [hu] at u1; cases u1
        · rw [hpc k (ln h2), k1, ← ok.len]
          intro b hb hb2
          exact hu k d' h2 u2 b hb2 hb
      · omega
/-- a new changeable object -/
def Wd.cel (W : Wd) (p : Addr) (o : HO) (c : Cel) : Wd := { W with H := upd W.H p o, A := W.A ++ [p], st := W.st ++ [c] }
theorem cel_ext (ok : WOk C W) {p : Addr} (hp : W.H p = none) (o : HO) (c : Cel) : Ext W (W.cel p o c) := by
  refine ⟨⟨[p], rfl⟩, rfl, fun a u h _ n => ⟨upd_old hp o h, fun z => ?_⟩, fun a h => ?_, fun _ _ => rfl, fun a h => upd_gone h⟩
  · rcases app_live (W1 := W.cel p o c) ok rfl rfl z with z | z
    · exact n z
    · subst z; rw [hp] at h; cases h
  · rcases List.mem_append.mp (show a ∈ W.A ++ [p] from h) with h | h
    · exact .inl h
    · simp at h; subst h; exact .inr fun o e => by rw [hp] at e; cases e
theorem cel_ok (ok : WOk C W) {p : Addr} (hp : W.H p = none) {o : HO} {c : Cel} (hc : ∀ W', Ext W W' → W'.H = upd W.H p o → CellAt C W' (W.pc W.A.length) c p) (hb : c.up = false := by rfl) (ho : plO o = true := by rfl) : WOk C (W.cel p o c) := by
  have e := cel_ext ok hp o c
  exact ok.app' (W1 := W.cel p o c) rfl rfl (fun _ _ => rfl) e.mn (tabs_mv ok.tabs fun b u h _ _ => upd_old hp o h) (fun b u h _ _ => upd_old hp o h) (fun n a c h1 h2 _ => by
    show upd W.H p o a = _
    rw [upd_ne fun z => (ok.at_ n a c h1 h2).tracked (by rw [z]; exact hp)]) (fun a h => upd_there ho h) (fun a h => upd_there ho (ok.hidT a h)) (fun a h => ⟨ok.hidA a h, fun z => (ok.hidT a h).ne (by rw [z]; exact hp)⟩) (ok.fresh hp) (.inl hb) (hc _ e rfl)
theorem cel_lst_ok (ok : WOk C W) {p : Addr} (hp : W.H p = none) {ds : List D} {xs : List V} (r : RepL C W ds xs) : WOk C (W.cel p (.lst xs) (.lst ds)) :=
  cel_ok ok hp fun W' e h => ⟨xs, by rw [h]; exact upd_same, r.ext e⟩
theorem cel_dct_ok (ok : WOk C W) {p : Addr} (hp : W.H p = none) {ks : List Key} {ds : List D} {xs : List V} (hl : ks.length = xs.length) (r : RepL C W ds xs) : WOk C (W.cel p (.dK (ks.zip xs)) (.dct ks ds)) :=
  cel_ok ok hp fun W' e h => ⟨xs, by rw [h]; exact upd_same, hl, r.ext e⟩
theorem cel_rep (ok : WOk C W) {p : Addr} {o : HO} {c : Cel} : Rep C (W.cel p o c) (.cell W.st.length) (.ref p) := by
  unfold Rep
  refine ⟨p, rfl, ?_⟩
  show (W.A ++ [p])[W.st.length]? = some p
  rw [← ok.len]; simp
/-- a changeable object is changed -/
def Wd.put (W : Wd) (n : Nat) (a : Addr) (o : HO) (c : Cel) : Wd := { W with H := upd W.H a o, st := W.st.set n c }
theorem box_ne (ok : WOk C W) {n : Nat} {a : Addr} {c₀ : Cel} (ha : W.A[n]? = some a) (hc : W.st[n]? = some c₀) (hd : c₀.box = true) {b : Addr} {u : HO} (h : W.H b = some u) (hn : nX u = false) : b ≠ a := fun z => by
  subst z
  obtain ⟨o, h1, h2⟩ := (ok.at_ n b c₀ ha hc).boxO hd
  rw [h1] at h; cases h
  rw [h2] at hn; cases hn
theorem box_live {c : Cel} (h : c.box = true) : c ≠ .dead := fun z => by subst z; cases h
theorem idx_one (ok : WOk C W) {n m : Nat} {a : Addr} (h1 : W.A[n]? = some a) (h2 : W.A[m]? = some a) : n = m := by
  obtain ⟨q1, e1⟩ := List.getElem?_eq_some_iff.mp h1
  obtain ⟨q2, e2⟩ := List.getElem?_eq_some_iff.mp h2
  exact (List.getElem_inj (h₀ := q1) (h₁ := q2) ok.nd).mp (e1.trans e2.symm)
theorem put_ext (ok : WOk C W) {n : Nat} {a : Addr} {c₀ : Cel} (ha : W.A[n]? = some a) (hc : W.st[n]? = some c₀) (hd : c₀.box = true) (o : HO) (c : Cel) : Ext W (W.put n a o c) := by
  refine ⟨List.prefix_refl _, rfl, fun b u h _ nl => ?_, fun _ h => .inl h, fun _ _ => rfl, fun b h => upd_gone h⟩
  · have ne : b ≠ a := fun z => nl (z ▸ ⟨n, c₀, ha, hc, box_live hd⟩)
    refine ⟨by show upd W.H a o b = _; rw [upd_ne ne]; exact h, fun ⟨m, d, h1, h2, h3⟩ => ?_⟩
    have h2 : (W.st.set n c)[m]? = some d := h2
    by_cases hm : n = m
    · subst hm
      have h1 : W.A[n]? = some b := h1
      rw [ha] at h1
      exact ne (Option.some.inj h1).symm
    · rw [List.getElem?_set_ne hm] at h2
      exact nl ⟨m, d, h1, h2, h3⟩
theorem put_ok (ok : WOk C W) {n : Nat} {a : Addr} {c₀ : Cel} (ha : W.A[n]? = some a) (hc : W.st[n]? = some c₀) (hd : c₀.box = true) {o : HO} {c : Cel}
    (hnew : ∀ W', Ext W W' → W'.H = upd W.H a o → CellAt C W' (W.pc n) c a) (hb : c.up = false := by rfl) (ho : plO o = true := by rfl) : WOk C (W.put n a o c) := by
  have e := put_ext ok ha hc hd o c
  have hn : n < W.st.length := (List.getElem?_eq_some_iff.mp hc).1
  have hX : ∀ b u, W.H b = some u → nX u = false → upd W.H a o b = some u := fun b u h k => by rw [upd_ne (box_ne ok ha hc hd h k)]; exact h
  refine ⟨?_, ok.nd, fun m b d h1 h2 => ?_, fun b h => upd_there ho (ok.hidT b h), tabs_mv ok.tabs (fun b o h k _ => hX b o h k), fun k m d d' hk h1 h2 u1 u2 => ?_, ok.hidA⟩
  · show W.A.length = (W.st.set n c).length
    rw [List.length_set]; exact ok.len
  · have h2 : (W.st.set n c)[m]? = some d := h2
    by_cases hm : n = m
    · subst hm
      have h1 : W.A[n]? = some b := h1
      rw [ha] at h1; cases h1
      rw [List.getElem?_set_self hn] at h2; cases h2
      exact hnew _ e rfl
    · rw [List.getElem?_set_ne hm] at h2
      have ne : b ≠ a := fun z => hm (by subst z; exact idx_one ok ha h1)
      exact (ok.at_ m b d h1 h2).mv e.mn (fun b o h k _ _ => hX b o h k) (fun _ b _ o h k => hX b o h (isP_not k)) (fun _ => by show upd W.H a o b = _; rw [upd_ne ne]) (fun h => upd_there ho h)
  · have h1 : (W.st.set n c)[k]? = some d := h1
    have h2 : (W.st.set n c)[m]? = some d' := h2
    have nk : n ≠ k := fun z => by subst z; rw [List.getElem?_set_self hn] at h1; cases h1; rw [hb] at u1; cases u1
    have nm : n ≠ m := fun z => by subst z; rw [List.getElem?_set_self hn] at h2; cases h2; rw [hb] at u2; cases u2
    rw [List.getElem?_set_ne nk] at h1
    rw [List.getElem?_set_ne nm] at h2
    exact ok.pcd k m d d' hk h1 h2 u1 u2
theorem put_lst_ok (ok : WOk C W) {n : Nat} {a : Addr} {c₀ : Cel} (ha : W.A[n]? = some a) (hc : W.st[n]? = some c₀) (hd : c₀.box = true) {ds : List D} {xs : List V} (r : RepL C W ds xs) : WOk C (W.put n a (.lst xs) (.lst ds)) :=
  put_ok ok ha hc hd fun W' e h => ⟨xs, by rw [h]; exact upd_same, r.ext e⟩
theorem put_dct_ok (ok : WOk C W) {n : Nat} {a : Addr} {c₀ : Cel} (ha : W.A[n]? = some a) (hc : W.st[n]? = some c₀) (hd : c₀.box = true) {ks : List Key} {ds : List D} {xs : List V} (hl : ks.length = xs.length) (r : RepL C W ds xs) : WOk C (W.put n a (.dK (ks.zip xs)) (.dct ks ds)) :=
  put_ok ok ha hc hd fun W' e h => ⟨xs, by rw [h]; exact upd_same, hl, r.ext e⟩
/-- a cell's object, from its datum -/
theorem cell_lst (ok : WOk C W) {n : Nat} {v : V} {ds : List D} (r : Rep C W (.cell n) v) (hs : W.st[n]? = some (.lst ds)) : ∃ a xs, v = .ref a ∧ W.A[n]? = some a ∧ W.H a = some (.lst xs) ∧ RepL C W ds xs := by
  obtain ⟨a, rfl, ha⟩ := r.cell_inv
  obtain ⟨xs, h, q⟩ := ok.at_ n a _ ha hs
  exact ⟨a, xs, rfl, ha, h, q⟩
theorem cell_dct (ok : WOk C W) {n : Nat} {v : V} {ks : List Key} {ds : List D} (r : Rep C W (.cell n) v) (hs : W.st[n]? = some (.dct ks ds)) : ∃ a xs, v = .ref a ∧ W.A[n]? = some a ∧ W.H a = some (.dK (ks.zip xs)) ∧ ks.length = xs.length ∧ RepL C W ds xs := by
  obtain ⟨a, rfl, ha⟩ := r.cell_inv
  obtain ⟨xs, h, l, q⟩ := ok.at_ n a _ ha hs
  exact ⟨a, xs, rfl, ha, h, l, q⟩
end
end Pd

namespace Pd
open PySem PySem.Spec L2
variable [Codes]

/-! ## outcomes -/
structure Exn where
  cls : Str
  fs : List (Str × D)
inductive Out (α : Type) where
  | ok (a : α) (st : Sto) | err (e : Exn) (st : Sto) | bad
abbrev En := List (Option D)
inductive SOut where
  | nx (en : En) (st : Sto) | rt (d : D) (st : Sto) | bk (en : En) (st : Sto) | ct (en : En) (st : Sto) | err (e : Exn) (en : En) (st : Sto) | bad
abbrev EM := En → Sto → Out D
abbrev LM := En → Sto → Out (List D)
abbrev TM := En → Sto → Out Bool
abbrev SM := En → Sto → SOut
def mb {α β : Type} (x : Out α) (f : α → Sto → Out β) : Out β := match x with
  | .ok a st => f a st | .err e st => .err e st | .bad => .bad
def lift {α : Type} (o : Option α) (st : Sto) : Out α := match o with
  | some a => .ok a st | none => .bad
@[simp] theorem mb_ok {α β : Type} (a : α) (st : Sto) (f : α → Sto → Out β) : mb (.ok a st) f = f a st := rfl
@[simp] theorem mb_bad {α β : Type} (f : α → Sto → Out β) : mb (.bad) f = .bad := rfl
@[simp] theorem mb_err {α β : Type} (e : Exn) (st : Sto) (f : α → Sto → Out β) : mb (.err e st) f = .err e st := rfl
@[simp] theorem lift_some {α : Type} (a : α) (st : Sto) : lift (some a) st = .ok a st := rfl
@[simp] theorem lift_none {α : Type} (st : Sto) : lift (none : Option α) st = .bad := rfl

def EnvR (C : Cn) (W : Wd) (σ : St) (en : En) : Prop := σ.length = en.length ∧ ∀ (i : Nat) (d : D), en[i]? = some (some d) → ∃ v, σ[i]? = some (some v) ∧ Rep C W d v
theorem EnvR.mn {C : Cn} {W W' : Wd} {σ : St} {en : En} (h : EnvR C W σ en) (e : Mn W W') : EnvR C W' σ en := ⟨h.1, fun i d q => let ⟨v, h1, h2⟩ := h.2 i d q; ⟨v, h1, h2.mn e⟩⟩
theorem EnvR.ext {C : Cn} {W W' : Wd} {σ : St} {en : En} (h : EnvR C W σ en) (e : Ext W W') : EnvR C W' σ en := h.mn e.mn
theorem EnvR.set {C : Cn} {W : Wd} {σ : St} {en : En} (h : EnvR C W σ en) {d : D} {v : V} (i : Nat) (r : Rep C W d v) : EnvR C W (σ.set i (some v)) (en.set i (some d)) := by
  refine ⟨by rw [List.length_set, List.length_set]; exact h.1, fun j e q => ?_⟩
  by_cases hj : i = j
  · subst hj
    by_cases hl : i < en.length
    · rw [List.getElem?_set_self hl] at q
      cases q
      exact ⟨v, List.getElem?_set_self (by rw [h.1]; exact hl), r⟩
    · rw [List.getElem?_eq_none (by rw [List.length_set]; omega)] at q; cases q
  · rw [List.getElem?_set_ne hj] at q
    obtain ⟨u, h1, h2⟩ := h.2 j e q
    exact ⟨u, by rw [List.getElem?_set_ne hj]; exact h1, h2⟩
theorem EnvR.wipe {C : Cn} {W : Wd} {σ : St} {en : En} (h : EnvR C W σ en) : ∀ vs : List Nat, EnvR C W (L2.wipe σ vs) (vs.foldr (fun v e => e.set v none) en)
  | [] => h
  | v :: vs => by
    have q := EnvR.wipe h vs
    show EnvR C W ((L2.wipe σ vs).set v none) ((vs.foldr (fun v e => e.set v none) en).set v none)
    refine ⟨by rw [List.length_set, List.length_set]; exact q.1, fun j e z => ?_⟩
    by_cases hj : v = j
    · subst hj
      by_cases hl : v < (vs.foldr (fun v e => e.set v none) en).length
      · rw [List.getElem?_set_self hl] at z; cases z
      · rw [List.getElem?_eq_none (by rw [List.length_set]; omega)] at z; cases z
    · rw [List.getElem?_set_ne hj] at z
      obtain ⟨u, h1, h2⟩ := q.2 j e z
      exact ⟨u, by rw [List.getElem?_set_ne hj]; exact h1, h2⟩

/-- an exception that flies: its class by name, its own dict -/
def ExR (C : Cn) (W : Wd) (e : Exn) (cls : Value) (dd : Option Addr) : Prop :=
  (C.mg e.cls = some cls ∨ (C.mg e.cls = none ∧ bootBuiltins e.cls = some cls)) ∧
  match dd with
  | none => e.fs = []
  | some d => ∃ xs, W.H d = some (.xd ((e.fs.map (·.1)).zip xs)) ∧ ¬ Live W d ∧ RepL C W (e.fs.map (·.2)) xs

section
variable (C : Cn) (Wx : WX)
def PostE (W : Wd) (σ : St) (Q : VK) : Out D → Prop
  | .ok d st' => ∀ W' v, W'.st = st' → WOk C W' → Ext W W' → Rep C W' d v → Q v W'.H
  | .err e st' => ∀ W' cls dd, W'.st = st' → WOk C W' → Ext W W' → ExR C W' e cls dd → Wx cls dd σ W'.H
  | .bad => False
def PostT (W : Wd) (σ : St) (Q : Bool → Hp → Prop) : Out Bool → Prop
  | .ok b st' => ∀ W', W'.st = st' → WOk C W' → Ext W W' → Q b W'.H
  | .err e st' => ∀ W' cls dd, W'.st = st' → WOk C W' → Ext W W' → ExR C W' e cls dd → Wx cls dd σ W'.H
  | .bad => False
def PostL (W : Wd) (σ : St) (Q : List V → Hp → Prop) : Out (List D) → Prop
  | .ok ds st' => ∀ W' vs, W'.st = st' → WOk C W' → Ext W W' → RepL C W' ds vs → Q vs W'.H
  | .err e st' => ∀ W' cls dd, W'.st = st' → WOk C W' → Ext W W' → ExR C W' e cls dd → Wx cls dd σ W'.H
  | .bad => False
def PostS (W : Wd) (Dn : Ends) : SOut → Prop
  | .nx en' st' => ∀ W' σ', W'.st = st' → WOk C W' → Ext W W' → EnvR C W' σ' en' → Dn.nx σ' W'.H
  | .rt d st' => ∀ W' v, W'.st = st' → WOk C W' → Ext W W' → Rep C W' d v → Dn.rt v W'.H
  | .bk en' st' => ∀ W' σ', W'.st = st' → WOk C W' → Ext W W' → EnvR C W' σ' en' → Dn.bk σ' W'.H
  | .ct en' st' => ∀ W' σ', W'.st = st' → WOk C W' → Ext W W' → EnvR C W' σ' en' → Dn.ct σ' W'.H
  | .err e en' st' => ∀ W' σ' cls dd, W'.st = st' → WOk C W' → Ext W W' → EnvR C W' σ' en' → ExR C W' e cls dd → Wx cls dd σ' W'.H
  | .bad => False
def tD (m : EM) : TE := fun σ H Q => ∃ W en, W.H = H ∧ WOk C W ∧ EnvR C W σ en ∧ PostE C Wx W σ Q (m en W.st)
def tDT (m : TM) : TT := fun σ H Q => ∃ W en, W.H = H ∧ WOk C W ∧ EnvR C W σ en ∧ PostT C Wx W σ Q (m en W.st)
def tDL (m : LM) : TA := fun σ H Q => ∃ W en, W.H = H ∧ WOk C W ∧ EnvR C W σ en ∧ PostL C Wx W σ Q (m en W.st)
def tDS (m : SM) : TS := fun Dn σ H => ∃ W en, W.H = H ∧ WOk C W ∧ EnvR C W σ en ∧ PostS C Wx W Dn (m en W.st)
end
abbrev cn (X : Cx) : Cn := ⟨X.K, X.mg⟩
structure PD (X : Cx) (Wx : WX) (e : Expr) (m : EM) : Prop where
  pe : PE X e (tD (cn X) Wx m)
structure PDT (X : Cx) (Wx : WX) (e : Expr) (m : TM) : Prop where
  pt : PT X e (tDT (cn X) Wx m)
structure PDW (X : Cx) (Wx : WX) (e : Expr) (m : TM) : Prop where
  pw : PW X e (tDT (cn X) Wx m)
structure PDA (X : Cx) (Wx : WX) (es : List Expr) (m : LM) : Prop where
  pa : PA X es (tDL (cn X) Wx m)
structure PDS (X : Cx) (Wx : WX) (st : Stmt) (m : SM) : Prop where
  ps : PS X st (tDS (cn X) Wx m)
structure PDSs (X : Cx) (Wx : WX) (st : List Stmt) (m : SM) : Prop where
  ps : PSs X st (tDS (cn X) Wx m)

theorem PE.weak {X : Cx} {e : Expr} {t t' : TE} (h : PE X e t) (f : ∀ σ H Q, t' σ H Q → t σ H Q) : PE X e t' := ⟨fun pins s σ H Q I q => h.run pins s σ H Q I (f σ H Q q)⟩
theorem PT.weak {X : Cx} {e : Expr} {t t' : TT} (h : PT X e t) (f : ∀ σ H Q, t' σ H Q → t σ H Q) : PT X e t' := ⟨fun pins s σ H Q I q => h.run pins s σ H Q I (f σ H Q q)⟩
theorem PW.weak {X : Cx} {e : Expr} {t t' : TT} (h : PW X e t) (f : ∀ σ H Q, t' σ H Q → t σ H Q) : PW X e t' := ⟨fun wh pins s σ H Q I q => h.run wh pins s σ H Q I (f σ H Q q)⟩
theorem PA.weak {X : Cx} {e : List Expr} {t t' : TA} (h : PA X e t) (f : ∀ σ H Q, t' σ H Q → t σ H Q) : PA X e t' := ⟨fun pos pins s σ H Q I q => h.run pos pins s σ H Q I (f σ H Q q)⟩
theorem PS.weak {X : Cx} {e : Stmt} {t t' : TS} (h : PS X e t) (f : ∀ D σ H, t' D σ H → t D σ H) : PS X e t' := ⟨fun pins s σ H D I q => h.run pins s σ H D I (f D σ H q)⟩
theorem PSs.weak {X : Cx} {e : List Stmt} {t t' : TS} (h : PSs X e t) (f : ∀ D σ H, t' D σ H → t D σ H) : PSs X e t' := ⟨fun pins s σ H D I q => h.run pins s σ H D I (f D σ H q)⟩

section
variable {C : Cn} {Wx : WX} {W W' : Wd} {σ : St} {en : En}
theorem PostE.ext {Q : VK} {o : Out D} (h : PostE C Wx W σ Q o) (e : Ext W W') : PostE C Wx W' σ Q o := by
  cases o with
  | ok d st => exact fun W2 v h1 h2 h3 => h W2 v h1 h2 (e.trans h3)
  | err x st => exact fun W2 c dd h1 h2 h3 => h W2 c dd h1 h2 (e.trans h3)
  | bad => exact h
theorem PostT.ext {Q : Bool → Hp → Prop} {o : Out Bool} (h : PostT C Wx W σ Q o) (e : Ext W W') : PostT C Wx W' σ Q o := by
  cases o with
  | ok d st => exact fun W2 h1 h2 h3 => h W2 h1 h2 (e.trans h3)
  | err x st => exact fun W2 c dd h1 h2 h3 => h W2 c dd h1 h2 (e.trans h3)
  | bad => exact h
theorem PostL.ext {Q : List V → Hp → Prop} {o : Out (List D)} (h : PostL C Wx W σ Q o) (e : Ext W W') : PostL C Wx W' σ Q o := by
  cases o with
  | ok d st => exact fun W2 v h1 h2 h3 => h W2 v h1 h2 (e.trans h3)
  | err x st => exact fun W2 c dd h1 h2 h3 => h W2 c dd h1 h2 (e.trans h3)
  | bad => exact h
theorem PostS.ext {Dn : Ends} {o : SOut} (h : PostS C Wx W Dn o) (e : Ext W W') : PostS C Wx W' Dn o := by
  cases o with
  | nx en st => exact fun W2 v h1 h2 h3 => h W2 v h1 h2 (e.trans h3)
  | rt en st => exact fun W2 v h1 h2 h3 => h W2 v h1 h2 (e.trans h3)
  | bk en st => exact fun W2 v h1 h2 h3 => h W2 v h1 h2 (e.trans h3)
  | ct en st => exact fun W2 v h1 h2 h3 => h W2 v h1 h2 (e.trans h3)
  | err x en st => exact fun W2 s c dd h1 h2 h3 => h W2 s c dd h1 h2 (e.trans h3)
  | bad => exact h
/-- an expression, then what follows -/
theorem tD_seq {m : EM} {R : VK} {G : Out D → Prop} (ok : WOk C W) (er : EnvR C W σ en) (hok : ∀ d st W' v, m en W.st = .ok d st → W'.st = st → WOk C W' → Ext W W' → EnvR C W' σ en → Rep C W' d v → R v W'.H)
    (herr : ∀ e st, m en W.st = .err e st → PostE C Wx W σ R (.err e st)) (hbad : m en W.st ≠ .bad) : tD C Wx m σ W.H R := by
  refine ⟨W, en, rfl, ok, er, ?_⟩
  cases h : m en W.st with
  | ok d st => exact fun W' v h1 h2 h3 h4 => hok d st W' v h h1 h2 h3 (er.ext h3) h4
  | err e st => exact herr e st h
  | bad => exact hbad h
theorem seqE {m : EM} {f : D → Sto → Out D} {Q R : VK} (ok : WOk C W) (er : EnvR C W σ en) (h : PostE C Wx W σ Q (mb (m en W.st) f))
    (hok : ∀ d W' v, WOk C W' → Ext W W' → EnvR C W' σ en → Rep C W' d v → PostE C Wx W' σ Q (f d W'.st) → R v W'.H) : tD C Wx m σ W.H R := by
  refine ⟨W, en, rfl, ok, er, ?_⟩
  cases e : m en W.st with
  | ok d st =>
    rw [e] at h
    exact fun W' v h1 h2 h3 h4 => hok d W' v h2 h3 (er.ext h3) h4 (by subst h1; exact PostE.ext h h3)
  | err x st => rw [e] at h; exact h
  | bad => rw [e] at h; exact h
theorem seqT {m : EM} {f : D → Sto → Out Bool} {Q : Bool → Hp → Prop} {R : VK} (ok : WOk C W) (er : EnvR C W σ en) (h : PostT C Wx W σ Q (mb (m en W.st) f))
    (hok : ∀ d W' v, WOk C W' → Ext W W' → EnvR C W' σ en → Rep C W' d v → PostT C Wx W' σ Q (f d W'.st) → R v W'.H) : tD C Wx m σ W.H R := by
  refine ⟨W, en, rfl, ok, er, ?_⟩
  cases e : m en W.st with
  | ok d st =>
    rw [e] at h
    exact fun W' v h1 h2 h3 h4 => hok d W' v h2 h3 (er.ext h3) h4 (by subst h1; exact PostT.ext h h3)
  | err x st => rw [e] at h; exact h
  | bad => rw [e] at h; exact h
theorem seqL {m : EM} {f : D → Sto → Out (List D)} {Q : List V → Hp → Prop} {R : VK} (ok : WOk C W) (er : EnvR C W σ en) (h : PostL C Wx W σ Q (mb (m en W.st) f))
    (hok : ∀ d W' v, WOk C W' → Ext W W' → EnvR C W' σ en → Rep C W' d v → PostL C Wx W' σ Q (f d W'.st) → R v W'.H) : tD C Wx m σ W.H R := by
  refine ⟨W, en, rfl, ok, er, ?_⟩
  cases e : m en W.st with
  | ok d st =>
    rw [e] at h
    exact fun W' v h1 h2 h3 h4 => hok d W' v h2 h3 (er.ext h3) h4 (by subst h1; exact PostL.ext h h3)
  | err x st => rw [e] at h; exact h
  | bad => rw [e] at h; exact h
/-- .. ahead of an argument list -/
theorem seqLE {m : LM} {f : List D → Sto → Out D} {Q : VK} {R : List V → Hp → Prop} (ok : WOk C W) (er : EnvR C W σ en) (h : PostE C Wx W σ Q (mb (m en W.st) f))
    (hok : ∀ d W' v, WOk C W' → Ext W W' → EnvR C W' σ en → RepL C W' d v → PostE C Wx W' σ Q (f d W'.st) → R v W'.H) : tDL C Wx m σ W.H R := by
  refine ⟨W, en, rfl, ok, er, ?_⟩
  cases e : m en W.st with
  | ok d st =>
    rw [e] at h
    exact fun W' v h1 h2 h3 h4 => hok d W' v h2 h3 (er.ext h3) h4 (by subst h1; exact PostE.ext h h3)
  | err x st => rw [e] at h; exact h
  | bad => rw [e] at h; exact h
theorem seqLL {m : LM} {f : List D → Sto → Out (List D)} {Q : List V → Hp → Prop} {R : List V → Hp → Prop} (ok : WOk C W) (er : EnvR C W σ en) (h : PostL C Wx W σ Q (mb (m en W.st) f))
    (hok : ∀ d W' v, WOk C W' → Ext W W' → EnvR C W' σ en → RepL C W' d v → PostL C Wx W' σ Q (f d W'.st) → R v W'.H) : tDL C Wx m σ W.H R := by
  refine ⟨W, en, rfl, ok, er, ?_⟩
  cases e : m en W.st with
  | ok d st =>
    rw [e] at h
    exact fun W' v h1 h2 h3 h4 => hok d W' v h2 h3 (er.ext h3) h4 (by subst h1; exact PostL.ext h h3)
  | err x st => rw [e] at h; exact h
  | bad => rw [e] at h; exact h
/-- .. ahead of a statement's end -/
def smb {α : Type} (x : Out α) (en : En) (f : α → Sto → SOut) : SOut := match x with
  | .ok a st => f a st | .err e st => .err e en st | .bad => .bad
@[simp] theorem smb_ok {α : Type} (a : α) (st : Sto) (en : En) (f : α → Sto → SOut) : smb (.ok a st) en f = f a st := rfl
@[simp] theorem smb_bad {α : Type} (en : En) (f : α → Sto → SOut) : smb .bad en f = .bad := rfl
@[simp] theorem smb_err {α : Type} (e : Exn) (st : Sto) (en : En) (f : α → Sto → SOut) : smb (.err e st) en f = .err e en st := rfl
theorem seqS {m : EM} {f : D → Sto → SOut} {Dn : Ends} {R : VK} (ok : WOk C W) (er : EnvR C W σ en) (h : PostS C Wx W Dn (smb (m en W.st) en f))
    (hok : ∀ d W' v, WOk C W' → Ext W W' → EnvR C W' σ en → Rep C W' d v → PostS C Wx W' Dn (f d W'.st) → R v W'.H) : tD C Wx m σ W.H R := by
  refine ⟨W, en, rfl, ok, er, ?_⟩
  cases e : m en W.st with
  | ok d st =>
    rw [e] at h
    exact fun W' v h1 h2 h3 h4 => hok d W' v h2 h3 (er.ext h3) h4 (by subst h1; exact PostS.ext h h3)
  | err x st => rw [e] at h; exact fun W' c dd h1 h2 h3 h4 => h W' σ c dd h1 h2 h3 (er.ext h3) h4
  | bad => rw [e] at h; exact h
theorem seqTS {m : TM} {f : Bool → Sto → SOut} {Dn : Ends} {R : Bool → Hp → Prop} (ok : WOk C W) (er : EnvR C W σ en) (h : PostS C Wx W Dn (smb (m en W.st) en f))
    (hok : ∀ b W', WOk C W' → Ext W W' → EnvR C W' σ en → PostS C Wx W' Dn (f b W'.st) → R b W'.H) : tDT C Wx m σ W.H R := by
  refine ⟨W, en, rfl, ok, er, ?_⟩
  cases e : m en W.st with
  | ok d st =>
    rw [e] at h
    exact fun W' h1 h2 h3 => hok d W' h2 h3 (er.ext h3) (by subst h1; exact PostS.ext h h3)
  | err x st => rw [e] at h; exact fun W' c dd h1 h2 h3 h4 => h W' σ c dd h1 h2 h3 (er.ext h3) h4
  | bad => rw [e] at h; exact h
theorem seqTE {m : TM} {f : Bool → Sto → Out D} {Q : VK} {R : Bool → Hp → Prop} (ok : WOk C W) (er : EnvR C W σ en) (h : PostE C Wx W σ Q (mb (m en W.st) f))
    (hok : ∀ b W', WOk C W' → Ext W W' → EnvR C W' σ en → PostE C Wx W' σ Q (f b W'.st) → R b W'.H) : tDT C Wx m σ W.H R := by
  refine ⟨W, en, rfl, ok, er, ?_⟩
  cases e : m en W.st with
  | ok d st =>
    rw [e] at h
    exact fun W' h1 h2 h3 => hok d W' h2 h3 (er.ext h3) (by subst h1; exact PostE.ext h h3)
  | err x st => rw [e] at h; exact h
  | bad => rw [e] at h; exact h
theorem seqTT {m : TM} {f : Bool → Sto → Out Bool} {Q : Bool → Hp → Prop} {R : Bool → Hp → Prop} (ok : WOk C W) (er : EnvR C W σ en) (h : PostT C Wx W σ Q (mb (m en W.st) f))
    (hok : ∀ b W', WOk C W' → Ext W W' → EnvR C W' σ en → PostT C Wx W' σ Q (f b W'.st) → R b W'.H) : tDT C Wx m σ W.H R := by
  refine ⟨W, en, rfl, ok, er, ?_⟩
  cases e : m en W.st with
  | ok d st =>
    rw [e] at h
    exact fun W' h1 h2 h3 => hok d W' h2 h3 (er.ext h3) (by subst h1; exact PostT.ext h h3)
  | err x st => rw [e] at h; exact h
  | bad => rw [e] at h; exact h
end

/-! ## expressions: names, constants -/
section
variable {X : Cx} {Wx : WX} {pos : Pos}
def mVar (i : Nat) : EM := fun en st => match en[i]? with | some (some d) => .ok d st | _ => .bad
theorem pd_var (i : Nat) {x : Str} (h : PE X (.Name x pos) (tVar i)) : PD X Wx (.Name x pos) (mVar i) := ⟨PE.weak h fun σ H Q ⟨W, en, e, ok, er, q⟩ => by
  subst e
  unfold mVar at q
  split at q
  · rename_i d hd
    obtain ⟨v, h1, h2⟩ := er.2 i d hd
    exact ⟨v, h1, q W v rfl ok (Ext.refl W) h2⟩
  · exact q.elim⟩
def mC (d : D) : EM := fun _ st => .ok d st
/-- a constant that has its value by itself -/
theorem pd_c {e : Expr} {v : V} {d : D} (h : PE X e (tC v)) (r : ∀ W, Rep (cn X) W d v) : PD X Wx e (mC d) := ⟨PE.weak h fun σ H Q ⟨W, en, e, ok, er, q⟩ => by
  subst e
  exact q W v rfl ok (Ext.refl W) (r W)⟩
theorem pd_int {i j} : PD X Wx (.Constant (.int i) j pos) (mC (.int i)) := pd_c pe_int fun W => .int i
theorem pd_bl {i j} : PD X Wx (.Constant (.bool i) j pos) (mC (.bl i)) := pd_c pe_bl fun W => .bl i
theorem pd_str {i j} : PD X Wx (.Constant (.str i) j pos) (mC (.str i)) := pd_c pe_str fun W => .str i
theorem pd_non {j} : PD X Wx (.Constant .none j pos) (mC .non) := pd_c pe_non fun W => .non
/-- a module's constants -/
theorem pd_gstr {x z : Str} {t : Tok} (hg : Gl X x) (hm : X.mg x = some (.str z t)) (hd : (x == ("__debug__" : Str)) = false := by decide) : PD X Wx (.Name x pos) (mC (.str z)) := pd_c (v := .str z) (pe_glob hg hm ⟨_, rfl⟩ hd) fun W => .str z
theorem pd_gint {x : Str} {i : Int} {t : Tok} (hg : Gl X x) (hm : X.mg x = some (.int i t)) (hd : (x == ("__debug__" : Str)) = false := by decide) : PD X Wx (.Name x pos) (mC (.int i)) := pd_c (v := .int i) (pe_glob hg hm ⟨_, rfl⟩ hd) fun W => .int i
theorem pd_gref {x : Str} {a : Addr} (hg : Gl X x) (hm : X.mg x = some (.ref a)) (hd : (x == ("__debug__" : Str)) = false := by decide) : PD X Wx (.Name x pos) (mC (.glob x)) := pd_c (v := .ref a) (pe_glob hg hm rfl hd) fun W => by unfold Rep; exact ⟨a, rfl, hm⟩
/-- a module's tuple of texts -/
theorem pd_gtup {x : Str} {a : Addr} {ds : List D} (hg : Gl X x) (hm : X.mg x = some (.ref a)) (hk : ∃ xs, KTup X.K a xs ∧ ∀ W, RepL (cn X) W ds xs) (hd : (x == ("__debug__" : Str)) = false := by decide) : PD X Wx (.Name x pos) (mC (.tup ds)) := by
  obtain ⟨xs, h1, h2⟩ := hk
  exact pd_c (v := .ref a) (pe_glob hg hm rfl hd) fun W => by unfold Rep; exact ⟨a, xs, rfl, .inr h1, h2 W⟩

/-! ## argument lists, displays -/
variable {e a b c : Expr} {es : List Expr} {m ma mb' mc : EM} {lm : LM}
def lNil : LM := fun _ st => .ok [] st
def lCons (m : EM) (lm : LM) : LM := fun en st => mb (m en st) fun d st => mb (lm en st) fun ds st => .ok (d :: ds) st
theorem pda_nil : PDA X Wx [] lNil := ⟨PA.weak pa_nil fun σ H Q ⟨W, en, e, ok, er, q⟩ => by
  subst e; exact q W [] rfl ok (Ext.refl W) .nil⟩
theorem pda_cons (h : PDA X Wx es lm) (he : PD X Wx e m) (hs : starEach (e :: es) X.env = (false, eval e X.env) :: starEach es X.env := by rfl) : PDA X Wx (e :: es) (lCons m lm) :=
  ⟨PA.weak (pa_cons he.pe h.pa hs) fun σ H Q ⟨W, en, e, ok, er, q⟩ => by
    subst e
    refine seqL ok er q fun d W1 v ok1 e1 er1 r1 q1 => ?_
    refine seqLL ok1 er1 q1 fun ds W2 vs ok2 e2 er2 r2 q2 => ?_
    exact q2 W2 (v :: vs) rfl ok2 (Ext.refl W2) (.cons (r1.ext e2) r2)⟩
def small (n : Nat) : Bool := decide (n ≤ sizeLine)
theorem small_iff {n : Nat} : small n = true ↔ n ≤ sizeLine := by unfold small; exact decide_eq_true_iff
def mTup (lm : LM) : EM := fun en st => mb (lm en st) fun ds st => if small ds.length then .ok (.tup ds) st else .bad
def mLst (lm : LM) : EM := fun en st => mb (lm en st) fun ds st => if small ds.length then .ok (.lst ds) st else .bad
def mLstC (lm : LM) : EM := fun en st => mb (lm en st) fun ds st => if small ds.length then .ok (.cell st.length) (st ++ [.lst ds]) else .bad
theorem pd_tup {x1} (h : PDA X Wx es lm) : PD X Wx (.Tuple es x1 pos) (mTup lm) := ⟨PE.weak (pe_tup h.pa) fun σ H Q ⟨W, en, e, ok, er, q⟩ => by
  subst e
  refine seqLE ok er q fun ds W1 vs ok1 e1 er1 r1 q1 => ?_
  by_cases hl : small ds.length = true
  · rw [if_pos hl] at q1
    refine ⟨by rw [← r1.length]; exact small_iff.mp hl, fun p hp => ?_⟩
    exact q1 (W1.lay p (.tup vs)) _ rfl (lay_ok ok1 hp _) (lay_ext ok1 hp _) (lay_tup ok1 hp r1)
  · rw [if_neg hl] at q1; exact q1.elim⟩
theorem pd_lst (h : PDA X Wx es lm) : PD X Wx (.List es pos) (mLst lm) := ⟨PE.weak (pe_lst h.pa) fun σ H Q ⟨W, en, e, ok, er, q⟩ => by
  subst e
  refine seqLE ok er q fun ds W1 vs ok1 e1 er1 r1 q1 => ?_
  by_cases hl : small ds.length = true
  · rw [if_pos hl] at q1
    refine ⟨by rw [← r1.length]; exact small_iff.mp hl, fun p hp => ?_⟩
    exact q1 (W1.lay p (.lst vs)) _ rfl (lay_ok ok1 hp _) (lay_ext ok1 hp _) (lay_lst ok1 hp r1)
  · rw [if_neg hl] at q1; exact q1.elim⟩
theorem pd_lstC (h : PDA X Wx es lm) : PD X Wx (.List es pos) (mLstC lm) := ⟨PE.weak (pe_lst h.pa) fun σ H Q ⟨W, en, e, ok, er, q⟩ => by
  subst e
  refine seqLE ok er q fun ds W1 vs ok1 e1 er1 r1 q1 => ?_
  by_cases hl : small ds.length = true
  · rw [if_pos hl] at q1
    refine ⟨by rw [← r1.length]; exact small_iff.mp hl, fun p hp => ?_⟩
    exact q1 (W1.cel p (.lst vs) (.lst ds)) _ rfl (cel_lst_ok ok1 hp r1) (cel_ext ok1 hp _ _) (cel_rep ok1)
  · rw [if_neg hl] at q1; exact q1.elim⟩

/-! ## operators, by data -/
/-- a two-place operation that makes at most what never changes -/
def rD2 (C : Cn) (g : D → D → Sto → Option D) : R2 := fun x y H Q => ∃ W a b d, W.H = H ∧ WOk C W ∧ Rep C W a x ∧ Rep C W b y ∧ g a b W.st = some d ∧
  ∀ W' v, W'.st = W.st → WOk C W' → Ext W W' → Rep C W' d v → Q v W'.H
def OpD (X : Cx) (f : Value → Value → Sem Value) (g : D → D → Sto → Option D) : Prop := OpR X f (rD2 (cn X) g)
theorem OpD.or {f : Value → Value → Sem Value} {g g' : D → D → Sto → Option D} (h : OpD X f g) (h' : OpD X f g') : OpD X f (fun a b st => (g a b st).or (g' a b st)) := by
  intro pins s σ H x y v u Q I rx ry ⟨W, a, b, d, e, ok, ra, rb, hg, q⟩
  have hg : (g a b W.st).or (g' a b W.st) = some d := hg
  cases e1 : g a b W.st with
  | some d' =>
    rw [e1] at hg
    have hg : some d' = some d := hg
    cases hg
    exact h pins s σ H x y v u Q I rx ry ⟨W, a, b, _, e, ok, ra, rb, e1, q⟩
  | none =>
    rw [e1] at hg
    have hg : g' a b W.st = some d := hg
    exact h' pins s σ H x y v u Q I rx ry ⟨W, a, b, d, e, ok, ra, rb, hg, q⟩
def mOp (g : D → D → Sto → Option D) (ma mb' : EM) : EM := fun en st => mb (ma en st) fun x st => mb (mb' en st) fun y st => lift (g x y st) st
theorem tOp_of {r : R2} {g : D → D → Sto → Option D} {σ : St} {H : Hp} {Q : VK} (hr : ∀ x y H Q, rD2 (cn X) g x y H Q → r x y H Q) (h : tD (cn X) Wx (mOp g ma mb') σ H Q) : tOp r (tD (cn X) Wx ma) (tD (cn X) Wx mb') σ H Q := by
  obtain ⟨W, en, e, ok, er, q⟩ := h
  subst e
  refine seqE ok er q fun x W1 v ok1 e1 er1 r1 q1 => ?_
  refine seqE ok1 er1 q1 fun y W2 u ok2 e2 er2 r2 q2 => ?_
  cases e3 : g x y W2.st with
  | none => rw [e3] at q2; exact q2.elim
  | some d => rw [e3] at q2; exact hr _ _ _ _ ⟨W2, x, y, d, rfl, ok2, r1.ext e2, r2, e3, q2⟩
theorem pd_op {op : Operator} {g : D → D → Sto → Option D} (ho : OpD X (binaryOp op) g) (ha : PD X Wx a ma) (hb : PD X Wx b mb') : PD X Wx (.BinOp a op b pos) (mOp g ma mb') :=
  ⟨PE.weak (pe_op ho ha.pe hb.pe) fun _ _ _ h => tOp_of (fun _ _ _ _ q => q) h⟩
theorem pd_cmp {op : CmpOp} {g : D → D → Sto → Option D} (ho : OpD X (compareOp op) g) (ha : PD X Wx a ma) (hb : PD X Wx b mb') (hm : behindInMarks op b = false := by first | exact nomark _ | rfl) : PD X Wx (.Compare a [op] [b] pos) (mOp g ma mb') :=
  ⟨PE.weak (pe_cmpR ho ha.pe hb.pe hm) fun _ _ _ h => tOp_of (fun _ _ _ _ q => q) h⟩
/-- as a test -/
def asB : D → Option Bool
  | .bl b => some b
  | _ => none
def mB (m : EM) : TM := fun en st => mb (m en st) fun d st => lift (asB d) st
theorem asB_some {d : D} {b : Bool} (h : asB d = some b) : d = .bl b := by
  cases d <;> simp [asB] at h
  subst h; rfl
theorem pdt_cmp {op : CmpOp} {g : D → D → Sto → Option D} (ho : OpD X (compareOp op) g) (ha : PD X Wx a ma) (hb : PD X Wx b mb') (hm : behindInMarks op b = false := by first | exact nomark _ | rfl) : PDT X Wx (.Compare a [op] [b] pos) (mB (mOp g ma mb')) := by
  refine ⟨PT.weak (pt_cmpR ho ha.pe hb.pe hm) fun σ H Q h => ?_⟩
  refine tOp_of (g := g) (fun _ _ _ _ q => q) ?_
  obtain ⟨W, en, e, ok, er, q⟩ := h
  subst e
  refine seqT (m := mOp g ma mb') (f := fun d st => lift (asB d) st) ok er q fun d W1 v ok1 e1 er1 r1 q1 => ?_
  cases e2 : asB d with
  | none => rw [e2] at q1; exact q1.elim
  | some k =>
    rw [e2] at q1
    obtain rfl := asB_some e2
    exact ⟨k, r1.bl_inv, q1 W1 rfl ok1 (Ext.refl _)⟩
/-- an expression whose value is a bool, as a test -/
theorem pdt_val (h : PD X Wx e m) (he : ∀ whole, isTrue e X.env whole = (do let v ← whole; standAt e.pos; holding [v] (truthy v)) := by intro _; rfl) : PDT X Wx e (mB m) := by
  refine ⟨PT.weak (pt_val h.pe he) fun σ H Q ⟨W, en, e, ok, er, q⟩ => ?_⟩
  subst e
  refine seqT ok er q fun d W1 v ok1 e1 er1 r1 q1 => ?_
  cases e2 : asB d with
  | none => rw [e2] at q1; exact q1.elim
  | some k =>
    rw [e2] at q1
    obtain rfl := asB_some e2
    exact ⟨k, r1.bl_inv, q1 W1 rfl ok1 (Ext.refl _)⟩
/-- chains -/
def mChain (g g' : D → D → Sto → Option D) (ma mb' mc : EM) : EM := fun en st => mb (ma en st) fun x st => mb (mb' en st) fun y st => mb (lift (g x y st) st) fun z st => mb (lift (asB z) st) fun k st =>
  if k = true then mb (mc en st) fun z st => lift (g' y z st) st else .ok (.bl false) st
end
end Pd

namespace Pd
open PySem PySem.Spec L2
variable [Codes]

section
variable {X : Cx} {Wx : WX} {pos : Pos} {e a b c : Expr} {es : List Expr} {m ma mb' mc : EM} {lm : LM} {tm tm' : TM} {rest : List Expr}

/-! ## chains, and, or, not, if-else -/
theorem chain_of {g g' : D → D → Sto → Option D} {σ : St} {H : Hp} {Q : VK} (h : tD (cn X) Wx (mChain g g' ma mb' mc) σ H Q) : tChain (rD2 (cn X) g) (rD2 (cn X) g') (tD (cn X) Wx ma) (tD (cn X) Wx mb') (tD (cn X) Wx mc) σ H Q := by
  obtain ⟨W, en, e, ok, er, q⟩ := h
  subst e
  refine seqE ok er q fun x W1 v ok1 e1 er1 r1 q1 => ?_
  refine seqE ok1 er1 q1 fun y W2 u ok2 e2 er2 r2 q2 => ?_
  cases e3 : g x y W2.st with
  | none => rw [e3] at q2; exact q2.elim
  | some z =>
    rw [e3] at q2
    refine ⟨W2, x, y, z, rfl, ok2, r1.ext e2, r2, e3, fun W3 w hs3 ok3 x3 r3 => ?_⟩
    cases e4 : asB z with
    | none =>
      have q2 : PostE (cn X) Wx W2 σ Q (mb (lift (asB z) W2.st) _) := q2
      rw [e4] at q2; exact q2.elim
    | some k =>
      have q2 : PostE (cn X) Wx W2 σ Q (mb (lift (asB z) W2.st) _) := q2
      rw [e4] at q2
      obtain rfl := asB_some e4
      refine ⟨k, r3.bl_inv, ?_⟩
      cases k with
      | false =>
        rw [if_neg Bool.false_ne_true]
        exact q2 W3 (.bl false) hs3 ok3 x3 (.bl false)
      | true =>
        rw [if_pos rfl]
        have q3 : PostE (cn X) Wx W3 σ Q (mb (mc en W3.st) fun z st => lift (g' y z st) st) := by
          rw [hs3]; exact PostE.ext q2 x3
        refine seqE ok3 (er2.ext x3) q3 fun w' W4 u' ok4 e4 er4 r4 q4 => ?_
        cases e5 : g' y w' W4.st with
        | none => rw [e5] at q4; exact q4.elim
        | some z' => rw [e5] at q4; exact ⟨W4, y, w', z', rfl, ok4, (r2.ext x3).ext e4, r4, e5, q4⟩
theorem pd_chain {op op' : CmpOp} {g g' : D → D → Sto → Option D} (ho : OpD X (compareOp op) g) (ho' : OpD X (compareOp op') g') (ha : PD X Wx a ma) (hb : PD X Wx b mb') (hc : PD X Wx c mc)
    (hm : lastMarks [op, op'] [b, c] = false := by with_unfolding_all rfl) : PD X Wx (.Compare a [op, op'] [b, c] pos) (mChain g g' ma mb' mc) :=
  ⟨PE.weak (pe_chain ho ho' ha.pe hb.pe hc.pe hm) fun σ H Q h => chain_of h⟩
theorem pdt_chain {op op' : CmpOp} {g g' : D → D → Sto → Option D} (ho : OpD X (compareOp op) g) (ho' : OpD X (compareOp op') g') (ha : PD X Wx a ma) (hb : PD X Wx b mb') (hc : PD X Wx c mc)
    (hm : lastMarks [op, op'] [b, c] = false := by with_unfolding_all rfl) : PDT X Wx (.Compare a [op, op'] [b, c] pos) (mB (mChain g g' ma mb' mc)) := by
  refine ⟨PT.weak (pt_chain ho ho' ha.pe hb.pe hc.pe hm) fun σ H Q h => chain_of (Q := fun x H' => ∃ k, x = V.bl k ∧ Q k H') ?_⟩
  obtain ⟨W, en, e, ok, er, q⟩ := h
  subst e
  refine seqT (m := mChain g g' ma mb' mc) (f := fun d st => lift (asB d) st) ok er q fun d W1 v ok1 e1 er1 r1 q1 => ?_
  cases e2 : asB d with
  | none => rw [e2] at q1; exact q1.elim
  | some k =>
    rw [e2] at q1
    obtain rfl := asB_some e2
    exact ⟨k, r1.bl_inv, q1 W1 rfl ok1 (Ext.refl _)⟩

def mAnd (ma mb' : EM) : EM := fun en st => mb (ma en st) fun x st => mb (lift (asB x) st) fun k st => if k = true then mb' en st else .ok (.bl false) st
def mOr (ma mb' : EM) : EM := fun en st => mb (ma en st) fun x st => mb (lift (asB x) st) fun k st => if k = true then .ok (.bl true) st else mb' en st
def mNot (ma : EM) : EM := fun en st => mb (ma en st) fun x st => mb (lift (asB x) st) fun k st => .ok (.bl (!k)) st
theorem pd_one {op} (h : PD X Wx a ma) : PD X Wx (.BoolOp op [a] pos) ma := ⟨pe_one h.pe⟩
theorem pd_and (ha : PD X Wx a ma) (hb : PD X Wx (.BoolOp .And (b :: rest) pos) mb') : PD X Wx (.BoolOp .And (a :: b :: rest) pos) (mAnd ma mb') := by
  refine ⟨PE.weak (pe_and ha.pe hb.pe) fun σ H Q ⟨W, en, e, ok, er, q⟩ => ?_⟩
  subst e
  refine seqE ok er q fun x W1 v ok1 e1 er1 r1 q1 => ?_
  cases e4 : asB x with
  | none => rw [e4] at q1; exact q1.elim
  | some k =>
    rw [e4] at q1
    obtain rfl := asB_some e4
    refine ⟨k, r1.bl_inv, ?_⟩
    cases k with
    | true =>
      rw [if_pos rfl]
      exact ⟨W1, en, rfl, ok1, er1, q1⟩
    | false => rw [if_neg Bool.false_ne_true]; exact q1 W1 _ rfl ok1 (Ext.refl _) (.bl false)
theorem pd_or (ha : PD X Wx a ma) (hb : PD X Wx (.BoolOp .Or (b :: rest) pos) mb') : PD X Wx (.BoolOp .Or (a :: b :: rest) pos) (mOr ma mb') := by
  refine ⟨PE.weak (pe_or ha.pe hb.pe) fun σ H Q ⟨W, en, e, ok, er, q⟩ => ?_⟩
  subst e
  refine seqE ok er q fun x W1 v ok1 e1 er1 r1 q1 => ?_
  cases e4 : asB x with
  | none => rw [e4] at q1; exact q1.elim
  | some k =>
    rw [e4] at q1
    obtain rfl := asB_some e4
    refine ⟨k, r1.bl_inv, ?_⟩
    cases k with
    | true => rw [if_pos rfl]; exact q1 W1 _ rfl ok1 (Ext.refl _) (.bl true)
    | false => rw [if_neg Bool.false_ne_true]; exact ⟨W1, en, rfl, ok1, er1, q1⟩
theorem pd_not (ha : PD X Wx a ma) : PD X Wx (.UnaryOp .Not a pos) (mNot ma) := by
  refine ⟨PE.weak (pe_not ha.pe) fun σ H Q ⟨W, en, e, ok, er, q⟩ => ?_⟩
  subst e
  refine seqE ok er q fun x W1 v ok1 e1 er1 r1 q1 => ?_
  cases e4 : asB x with
  | none => rw [e4] at q1; exact q1.elim
  | some k =>
    rw [e4] at q1
    obtain rfl := asB_some e4
    exact ⟨k, r1.bl_inv, q1 W1 _ rfl ok1 (Ext.refl _) (.bl _)⟩
def tmAnd (t u : TM) : TM := fun en st => mb (t en st) fun k st => if k = true then u en st else .ok false st
def tmOr (t u : TM) : TM := fun en st => mb (t en st) fun k st => if k = true then .ok true st else u en st
def tmNot (t : TM) : TM := fun en st => mb (t en st) fun k st => .ok (!k) st
theorem pdw_and1 (h : PDT X Wx a tm) : PDW X Wx (.BoolOp .And [a] pos) tm := ⟨pw_and1 h.pt⟩
theorem pdw_or1 (h : PDT X Wx a tm) : PDW X Wx (.BoolOp .Or [a] pos) tm := ⟨pw_or1 h.pt⟩
theorem pdw_and (ha : PDT X Wx a tm) (hb : PDW X Wx (.BoolOp .And (b :: rest) pos) tm') : PDW X Wx (.BoolOp .And (a :: b :: rest) pos) (tmAnd tm tm') := by
  refine ⟨PW.weak (pw_and ha.pt hb.pw) fun σ H Q ⟨W, en, e, ok, er, q⟩ => ?_⟩
  subst e
  refine seqTT ok er q fun k W1 ok1 e1 er1 q1 => ?_
  cases k with
  | true => rw [if_pos rfl]; exact ⟨W1, en, rfl, ok1, er1, q1⟩
  | false => rw [if_neg Bool.false_ne_true]; exact q1 W1 rfl ok1 (Ext.refl _)
theorem pdw_or (ha : PDT X Wx a tm) (hb : PDW X Wx (.BoolOp .Or (b :: rest) pos) tm') : PDW X Wx (.BoolOp .Or (a :: b :: rest) pos) (tmOr tm tm') := by
  refine ⟨PW.weak (pw_or ha.pt hb.pw) fun σ H Q ⟨W, en, e, ok, er, q⟩ => ?_⟩
  subst e
  refine seqTT ok er q fun k W1 ok1 e1 er1 q1 => ?_
  cases k with
  | true => rw [if_pos rfl]; exact q1 W1 rfl ok1 (Ext.refl _)
  | false => rw [if_neg Bool.false_ne_true]; exact ⟨W1, en, rfl, ok1, er1, q1⟩
theorem PDW.t {e : Expr} (h : PDW X Wx e tm) : PDT X Wx e tm := ⟨PW.pt h.pw⟩
theorem pdt_not (ha : PDT X Wx a tm) : PDT X Wx (.UnaryOp .Not a pos) (tmNot tm) := by
  refine ⟨PT.weak (pt_not ha.pt) fun σ H Q ⟨W, en, e, ok, er, q⟩ => ?_⟩
  subst e
  exact seqTT ok er q fun k W1 ok1 e1 er1 q1 => q1 W1 rfl ok1 (Ext.refl _)
def mIf (t : TM) (ma mb' : EM) : EM := fun en st => mb (t en st) fun k st => if k = true then ma en st else mb' en st
theorem pd_if (hc : PDT X Wx c tm) (ha : PD X Wx a ma) (hb : PD X Wx b mb') : PD X Wx (.IfExp c a b pos) (mIf tm ma mb') := by
  refine ⟨PE.weak (pe_ifExp hc.pt ha.pe hb.pe) fun σ H Q ⟨W, en, e, ok, er, q⟩ => ?_⟩
  subst e
  refine seqTE ok er q fun k W1 ok1 e1 er1 q1 => ?_
  cases k with
  | true => rw [if_pos rfl]; exact ⟨W1, en, rfl, ok1, er1, q1⟩
  | false => rw [if_neg Bool.false_ne_true]; exact ⟨W1, en, rfl, ok1, er1, q1⟩
end

/-! ## statements -/
section
variable {X : Cx} {Wx : WX} {pos : Pos} {e a b c : Expr} {es : List Expr} {m ma mb' mc : EM} {tm : TM} {s : Stmt} {rest ss : List Stmt} {sm sn : SM}
def sNil : SM := fun en st => .nx en st
def sSeq (m n : SM) : SM := fun en st => match m en st with
  | .nx en' st' => n en' st'
  | o => o
theorem pds_nil : PDSs X Wx [] sNil := ⟨PSs.weak pss_nil fun D σ H ⟨W, en, e, ok, er, q⟩ => by
  subst e; exact q W σ rfl ok (Ext.refl W) er⟩
theorem tDS_seq {t : TS} {D : Ends} {σ : St} {H : Hp} (h : tDS (cn X) Wx (sSeq sm sn) D σ H) : tDS (cn X) Wx sm { D with nx := tDS (cn X) Wx sn D } σ H := by
  obtain ⟨W, en, e, ok, er, q⟩ := h
  subst e
  refine ⟨W, en, rfl, ok, er, ?_⟩
  unfold sSeq at q
  cases h : sm en W.st with
  | nx en' st' =>
    rw [h] at q
    exact fun W' σ' h1 h2 h3 h4 => ⟨W', en', rfl, h2, h4, by subst h1; exact PostS.ext q h3⟩
  | rt d st => rw [h] at q; exact q
  | bk en' st' => rw [h] at q; exact q
  | ct en' st' => rw [h] at q; exact q
  | err x en' st' => rw [h] at q; exact q
  | bad => rw [h] at q; exact q
theorem pds_cons (h1 : PDS X Wx s sm) (h2 : PDSs X Wx rest sn) : PDSs X Wx (s :: rest) (sSeq sm sn) := ⟨PSs.weak (pss_cons h1.ps h2.ps) fun D σ H h => tDS_seq (t := fun _ _ _ => True) h⟩
theorem pds_one (h1 : PDS X Wx s sm) : PDSs X Wx [s] sm := ⟨pss_one h1.ps⟩
def sIf (t : TM) (m n : SM) : SM := fun en st => smb (t en st) en fun k st => if k = true then m en st else n en st
theorem pds_if {A B : List Stmt} (hc : PDT X Wx c tm) (ha : PDSs X Wx A sm) (hb : PDSs X Wx B sn) : PDS X Wx (.If c A B pos) (sIf tm sm sn) := by
  refine ⟨PS.weak (ps_if hc.pt ha.ps hb.ps) fun D σ H ⟨W, en, e, ok, er, q⟩ => ?_⟩
  subst e
  refine seqTS ok er q fun k W1 ok1 e1 er1 q1 => ?_
  cases k with
  | true => rw [if_pos rfl]; exact ⟨W1, en, rfl, ok1, er1, q1⟩
  | false => rw [if_neg Bool.false_ne_true]; exact ⟨W1, en, rfl, ok1, er1, q1⟩
def sRet (m : EM) : SM := fun en st => smb (m en st) en fun d st => .rt d st
theorem pds_ret (h : PD X Wx e m) : PDS X Wx (.Return (some e) pos) (sRet m) := ⟨PS.weak (ps_ret h.pe) fun D σ H ⟨W, en, e, ok, er, q⟩ => by
  subst e
  exact seqS ok er q fun d W1 v ok1 e1 er1 r1 q1 => q1 W1 v rfl ok1 (Ext.refl _) r1⟩
def sRetN : SM := fun en st => .rt .non st
theorem pds_retN : PDS X Wx (.Return none pos) sRetN := ⟨PS.weak ps_retN fun D σ H ⟨W, en, e, ok, er, q⟩ => by
  subst e
  exact q W _ rfl ok (Ext.refl _) .non⟩
def sExpr (m : EM) : SM := fun en st => smb (m en st) en fun d st => .nx en st
theorem pds_expr (h : PD X Wx e m) (hs : swapsWith e none pos.line X.env = pure false := by rfl) : PDS X Wx (.Expr e pos) (sExpr m) := ⟨PS.weak (ps_expr h.pe hs) fun D σ H ⟨W, en, e, ok, er, q⟩ => by
  subst e
  exact seqS ok er q fun d W1 v ok1 e1 er1 r1 q1 => q1 W1 σ rfl ok1 (Ext.refl _) er1⟩
theorem pds_pass : PDS X Wx (.Pass pos) sNil := ⟨PS.weak ps_pass fun D σ H ⟨W, en, e, ok, er, q⟩ => by
  subst e; exact q W σ rfl ok (Ext.refl W) er⟩
def sBreak : SM := fun en st => .bk en st
def sCont : SM := fun en st => .ct en st
theorem pds_break : PDS X Wx (.Break pos) sBreak := ⟨PS.weak ps_break fun D σ H ⟨W, en, e, ok, er, q⟩ => by
  subst e; exact q W σ rfl ok (Ext.refl W) er⟩
theorem pds_cont : PDS X Wx (.Continue pos) sCont := ⟨PS.weak ps_continue fun D σ H ⟨W, en, e, ok, er, q⟩ => by
  subst e; exact q W σ rfl ok (Ext.refl W) er⟩
def sSet (i : Nat) (m : EM) : SM := fun en st => smb (m en st) en fun d st => .nx (en.set i (some d)) st
theorem pds_set {i : Nat} {x : Str} {pos' : Pos} (he : PD X Wx e m) (hN : X.N.Nodup) (hi : X.N[i]? = some x := by rfl) (hx : Loc X.env.scope x := by first | exact Or.inl rfl | exact Or.inr rfl) (hs : swapsWith e (some (.Name x pos')) pos.line X.env = pure false := by rfl)
    (hf : X.fn x = true ∨ X.env.scope.names.lookup x = some .local := by first | exact .inl rfl | exact .inr rfl) : PDS X Wx (.Assign [.Name x pos'] e pos) (sSet i m) :=
  ⟨PS.weak (ps_set hN hi hx he.pe hs hf) fun D σ H ⟨W, en, e, ok, er, q⟩ => by
    subst e
    exact seqS ok er q fun d W1 v ok1 e1 er1 r1 q1 => q1 W1 _ rfl ok1 (Ext.refl _) (er1.set i r1)⟩
/-- a, b = x, y of plain local names -/
def sPar (i j : Nat) (ma mb' : EM) : SM := fun en st => smb (ma en st) en fun d st => smb (mb' en st) en fun d' st => .nx ((en.set i (some d)).set j (some d')) st
theorem pds_par {i j : Nat} {x y : Str} {px py pt : Pos} {kt k2 pt2} (ha : PD X Wx a ma) (hb : PD X Wx b mb') (hc : X.calm = true) (hN : X.N.Nodup) (hi : X.N[i]? = some x := by rfl) (hj : X.N[j]? = some y := by rfl) (hij : i ≠ j := by decide)
    (hx : X.env.scope.names.lookup x = some .local := by rfl) (hy : X.env.scope.names.lookup y = some .local := by rfl)
    (hw : swappedStores [.Tuple [.Name x px, .Name y py] kt pt] (.Tuple [a, b] k2 pt2) X.env = pure (some [x, y]) := by rfl)
    (hs : swapsWithSole [.Tuple [.Name x px, .Name y py] kt pt] (.Tuple [a, b] k2 pt2) pos.line X.env = pure false := by rfl)
    (h1 : starEach (a :: [b]) X.env = (false, eval a X.env) :: starEach [b] X.env := by rfl) (h2 : starEach (b :: []) X.env = (false, eval b X.env) :: starEach [] X.env := by rfl) :
    PDS X Wx (.Assign [.Tuple [.Name x px, .Name y py] kt pt] (.Tuple [a, b] k2 pt2) pos) (sPar i j ma mb') :=
  ⟨PS.weak (ps_par hc hN hi hj hij hx hy (pa_cons ha.pe (pa_cons hb.pe pa_nil h2) h1) hw hs) fun D σ H ⟨W, en, e, ok, er, q⟩ => by
    subst e
    refine seqS ok er q fun d W1 v ok1 e1 er1 r1 q1 => ?_
    refine seqS ok1 er1 q1 fun d' W2 v' ok2 e2 er2 r2 q2 => ?_
    exact ⟨v, v', rfl, q2 W2 _ rfl ok2 (Ext.refl _) ((er2.set i (r1.ext e2)).set j r2)⟩⟩

/-! ## targets -/
abbrev GM := D → En → Sto → Option En
def tDG (C : Cn) (vs : List Nat) (g : GM) : TG := fun v σ H Q => ∃ W en d en', W.H = H ∧ WOk C W ∧ EnvR C W σ en ∧ Rep C W d v ∧ g d en W.st = some en' ∧ ∀ σ', EnvR C W σ' en' → L2.wipe σ' vs = L2.wipe σ vs → Q σ' W.H
structure PDG (X : Cx) (vs : List Nat) (tg : Expr) (g : GM) : Prop where
  pg : PG X tg (tDG (cn X) vs g)
theorem PG.weak {tg : Expr} {t t' : TG} (h : PG X tg t) (f : ∀ v σ H Q, t' v σ H Q → t v σ H Q) : PG X tg t' := ⟨fun pins s σ H v u Q I r q => h.run pins s σ H v u Q I r (f v σ H Q q)⟩
theorem PGs.weak {tg : List Expr} {t t' : TGs} (h : PGs X tg t) (f : ∀ v σ H Q, t' v σ H Q → t v σ H Q) : PGs X tg t' := ⟨fun pins s σ H v u Q I r q => h.run pins s σ H v u Q I r (f v σ H Q q)⟩
theorem wipe_set_mem {σ : St} {i : Nat} {o : Option V} : ∀ {vs : List Nat}, i ∈ vs → L2.wipe (σ.set i o) vs = L2.wipe σ vs
  | v :: vs, h => by
    show (L2.wipe (σ.set i o) vs).set v none = (L2.wipe σ vs).set v none
    by_cases hv : i ∈ vs
    · rw [wipe_set_mem hv]
    · have hi : i = v := by
        rcases List.mem_cons.mp h with z | z
        · exact z
        · exact absurd z hv
      subst hi
      apply List.ext_getElem?
      intro j
      by_cases hj : i = j
      · subst hj
        by_cases hl : i < σ.length
        · rw [List.getElem?_set_self (by rw [L2.wipe_length, List.length_set]; exact hl), List.getElem?_set_self (by rw [L2.wipe_length]; exact hl)]
        · rw [List.getElem?_eq_none (by rw [List.length_set, L2.wipe_length, List.length_set]; omega), List.getElem?_eq_none (by rw [List.length_set, L2.wipe_length]; omega)]
      · rw [List.getElem?_set_ne hj, List.getElem?_set_ne hj]
        by_cases hjv : j ∈ vs
        · have gen : ∀ (ws : List Nat) (τ : St), j ∈ ws → (L2.wipe τ ws)[j]? = if j < τ.length then some none else none := by
            intro ws
            induction ws with
            | nil => intro τ z; cases z
            | cons w ws ih =>
              intro τ z
              show ((L2.wipe τ ws).set w none)[j]? = _
              by_cases hw : w = j
              · subst hw
                by_cases hl : w < τ.length
                · rw [List.getElem?_set_self (by rw [L2.wipe_length]; exact hl), if_pos hl]
                · rw [List.getElem?_eq_none (by rw [List.length_set, L2.wipe_length]; omega), if_neg hl]
              · rw [List.getElem?_set_ne hw]
                rcases List.mem_cons.mp z with z | z
                · exact absurd z.symm hw
                · exact ih τ z
          rw [gen vs _ hjv, gen vs _ hjv, List.length_set]
        · rw [L2.wipe_out hjv, L2.wipe_out hjv, List.getElem?_set_ne hj]
theorem wipe_wipe (σ : St) (vs : List Nat) : L2.wipe (L2.wipe σ vs) vs = L2.wipe σ vs := by
  have gen : ∀ (ws : List Nat), (∀ w ∈ ws, w ∈ vs) → L2.wipe (L2.wipe σ ws) vs = L2.wipe σ vs := by
    intro ws
    induction ws with
    | nil => intro _; rfl
    | cons w ws ih =>
      intro h
      show L2.wipe ((L2.wipe σ ws).set w none) vs = _
      rw [wipe_set_mem (h w List.mem_cons_self)]
      exact ih fun x hx => h x (List.mem_cons_of_mem _ hx)
  exact gen vs fun _ h => h
def gmName (i : Nat) : GM := fun d en _ => some (en.set i (some d))
theorem pdg_name {i : Nat} {x : Str} {vs : List Nat} (hN : X.N.Nodup) (hi : X.N[i]? = some x := by rfl) (hx : Loc X.env.scope x := by first | exact Or.inl rfl | exact Or.inr rfl) (hf : X.fn x = true ∨ X.env.scope.names.lookup x = some .local := by first | exact .inl rfl | exact .inr rfl) (hv : i ∈ vs := by decide) : PDG X vs (.Name x pos) (gmName i) :=
  ⟨PG.weak (pg_name hN hi hx hf) fun v σ H Q ⟨W, en, d, en', e, ok, er, r, hg, q⟩ => by
    subst e
    have hg : some (en.set i (some d)) = some en' := hg
    cases hg
    exact q _ (er.set i r) (wipe_set_mem hv)⟩
def gmAll : List GM → List D → En → Sto → Option En
  | [], [], en, _ => some en
  | g :: gs, d :: ds, en, st => (g d en st).bind fun en' => gmAll gs ds en' st
  | _, _, _, _ => none
def tDGs (C : Cn) (vs : List Nat) (gs : List GM) : TGs := fun us σ H Q => ∃ W en ds en', W.H = H ∧ WOk C W ∧ EnvR C W σ en ∧ RepL C W ds us ∧ gmAll gs ds en W.st = some en' ∧ ∀ σ', EnvR C W σ' en' → L2.wipe σ' vs = L2.wipe σ vs → Q σ' W.H
structure PDGs (X : Cx) (vs : List Nat) (tg : List Expr) (g : List GM) : Prop where
  pg : PGs X tg (tDGs (cn X) vs g)
theorem pdgs_nil {vs : List Nat} : PDGs X vs [] [] := ⟨PGs.weak pgs_nil fun us σ H Q ⟨W, en, ds, en', e, ok, er, r, hg, q⟩ => by
  subst e
  cases ds with
  | nil =>
    have hg : some en = some en' := hg
    cases hg
    exact ⟨r.nil_inv, q _ er rfl⟩
  | cons d ds => cases hg⟩
theorem pdgs_cons {vs : List Nat} {g : GM} {gs : List GM} (h : PDGs X vs es gs) (h1 : PDG X vs e g) (hs : (assignEach (e :: es) X.env).map (·.2) = assign e X.env :: (assignEach es X.env).map (·.2) := by rfl) : PDGs X vs (e :: es) (g :: gs) :=
  ⟨PGs.weak (pgs_cons h1.pg h.pg hs) fun us σ H Q ⟨W, en, ds, en', e, ok, er, r, hg, q⟩ => by
    subst e
    cases ds with
    | nil => cases hg
    | cons d ds =>
      obtain ⟨v, r', e1, h1, h2⟩ := r.cons_inv
      have hg : (g d en W.st).bind (fun en' => gmAll gs ds en' W.st) = some en' := hg
      cases e2 : g d en W.st with
      | none => rw [e2] at hg; cases hg
      | some en1 =>
        rw [e2] at hg
        refine ⟨v, r', e1, W, en, d, en1, rfl, ok, er, h1, e2, fun σ1 er1 w1 => ?_⟩
        exact ⟨W, en1, ds, en', rfl, ok, er1, h2, hg, fun σ2 er2 w2 => q σ2 er2 (w2.trans w1)⟩⟩
theorem gmAll_len : ∀ {gs : List GM} {ds : List D} {en en' : En} {st : Sto}, gmAll gs ds en st = some en' → ds.length = gs.length
  | [], [], _, _, _, _ => rfl
  | [], d :: ds, _, _, _, h => by cases h
  | g :: gs, [], _, _, _, h => by cases h
  | g :: gs, d :: ds, en, en', st, h => by
    have h : (g d en st).bind (fun en' => gmAll gs ds en' st) = some en' := h
    cases e : g d en st with
    | none => rw [e] at h; cases h
    | some en1 => rw [e] at h; rw [List.length_cons, List.length_cons, gmAll_len (en := en1) h]
def gmTup (gs : List GM) : GM := fun d en st => match d with | .tup ds => gmAll gs ds en st | _ => none
def gmLst (gs : List GM) : GM := fun d en st => match d with | .lst ds => gmAll gs ds en st | _ => none
theorem pdg_tup {vs : List Nat} {k : Nat} {gs : List GM} (h : PDGs X vs es gs) (hc : X.calm = true) (hn : (assignEach es X.env).length = gs.length := by rfl) (hst : (assignEach es X.env).findIdx? (·.1) = none := by rfl) : PDG X vs (.Tuple es k pos) (gmTup gs) :=
  ⟨PG.weak (pg_tup hc h.pg hn hst) fun v σ H Q ⟨W, en, d, en', e, ok, er, r, hg, q⟩ => by
    subst e
    cases d with
    | tup ds =>
      obtain ⟨a, xs, ev, ht, hr⟩ := r.tup_inv
      exact ⟨a, xs, ev, ht.sq, by rw [← hr.length]; exact gmAll_len hg, W, en, ds, en', rfl, ok, er, hr, hg, q⟩
    | _ => cases hg⟩
theorem pdg_lst {vs : List Nat} {k : Nat} {gs : List GM} (h : PDGs X vs es gs) (hc : X.calm = true) (hn : (assignEach es X.env).length = gs.length := by rfl) (hst : (assignEach es X.env).findIdx? (·.1) = none := by rfl) : PDG X vs (.Tuple es k pos) (gmLst gs) :=
  ⟨PG.weak (pg_lst hc h.pg hn hst) fun v σ H Q ⟨W, en, d, en', e, ok, er, r, hg, q⟩ => by
    subst e
    cases d with
    | lst ds =>
      obtain ⟨a, xs, ev, ht, hr⟩ := r.lst_inv
      exact ⟨a, xs, ev, ht.sq, by rw [← hr.length]; exact gmAll_len hg, W, en, ds, en', rfl, ok, er, hr, hg, q⟩
    | _ => cases hg⟩
/-- target = value -/
def sAsg (g : GM) (m : EM) : SM := fun en st => smb (m en st) en fun d st => match g d en st with | some en' => .nx en' st | none => .bad
theorem pds_asg {tg : Expr} {vs : List Nat} {g : GM} (he : PD X Wx e m) (hg : PDG X vs tg g) (hs : swapsWithSole [tg] e pos.line X.env = pure false := by rfl) (hw : swappedStores [tg] e X.env = pure none := by rfl)
    (h1 : (assignEach [tg] X.env).map (·.2) = [assign tg X.env] := by rfl) : PDS X Wx (.Assign [tg] e pos) (sAsg g m) :=
  ⟨PS.weak (ps_asg he.pe hg.pg hs hw h1) fun D σ H ⟨W, en, e, ok, er, q⟩ => by
    subst e
    refine seqS ok er q fun d W1 v ok1 e1 er1 r1 q1 => ?_
    cases e2 : g d en W1.st with
    | none => rw [e2] at q1; exact q1.elim
    | some en' => rw [e2] at q1; exact ⟨W1, en, d, en', rfl, ok1, er1, r1, e2, fun σ' er' _ => q1 W1 σ' rfl ok1 (Ext.refl _) er'⟩⟩
/-- name op= e -/
def sAug (i : Nat) (g : D → D → Sto → Option D) (m : EM) : SM := fun en st => match en[i]? with
  | some (some x) => smb (m en st) en fun y st => match g x y st with | some z => .nx (en.set i (some z)) st | none => .bad
  | _ => .bad
theorem pds_aug {i : Nat} {x : Str} {pos' : Pos} {op : Operator} {g : D → D → Sto → Option D} (he : PD X Wx e m) (ho : OpD X (inplaceOp op) g) (hN : X.N.Nodup) (hi : X.N[i]? = some x := by rfl) (hx : Loc X.env.scope x := by first | exact Or.inl rfl | exact Or.inr rfl)
    (hf : X.fn x = true ∨ X.env.scope.names.lookup x = some .local := by first | exact .inl rfl | exact .inr rfl) : PDS X Wx (.AugAssign (.Name x pos') op e pos) (sAug i g m) :=
  ⟨PS.weak (ps_aug hN hi hx he.pe (ti := rD2 (cn X) g) (fun pins s σ H x y v u Q I rx ry q => ho pins s σ H x y v u Q I rx ry q) hf) fun D σ H ⟨W, en, e, ok, er, q⟩ => by
    subst e
    unfold sAug at q
    cases hx' : en[i]? with
    | none => rw [hx'] at q; exact q.elim
    | some o =>
      cases o with
      | none => rw [hx'] at q; exact q.elim
      | some dx =>
        rw [hx'] at q
        obtain ⟨v, h1, h2⟩ := er.2 i dx hx'
        refine ⟨v, h1, ?_⟩
        refine seqS ok er q fun d W1 u ok1 e1 er1 r1 q1 => ?_
        cases e2 : g dx d W1.st with
        | none => rw [e2] at q1; exact q1.elim
        | some z =>
          rw [e2] at q1
          exact ⟨W1, dx, d, z, rfl, ok1, h2.ext e1, r1, e2, fun W2 w hs ok2 x2 r2 => q1 W2 _ hs ok2 x2 ((er1.ext x2).set i r2)⟩⟩
/-- cell[k] = e -/
def ixN (n : Nat) (i : Int) : Option Nat := L2.ixN n i
def sSetIx (mo mi m : EM) : SM := fun en st => smb (m en st) en fun d st => smb (mo en st) en fun o st => smb (mi en st) en fun i st => match o, i with
  | .cell n, .int k => match st[n]? with
    | some (.lst ds) => match ixN ds.length k with
      | some j => .nx en (st.set n (.lst (ds.set j d)))
      | none => .bad
    | _ => .bad
  | _, _ => .bad
theorem pds_setIx {o i : Expr} {mo mi : EM} {pos' : Pos} (he : PD X Wx e m) (ho : PD X Wx o mo) (hi : PD X Wx i mi) (ha : ∀ v, assign (.Subscript o i pos') X.env v = (do
      let ov ← holding [v] (eval o X.env)
      let iv ← holding [v, ov] (eval i X.env)
      standAt pos'
      holding [v, ov, iv] (setItem ov iv v)
      release [v, ov, iv] []) := by intro _; rfl) (hs : swapsWithSole [.Subscript o i pos'] e pos.line X.env = pure false := by rfl) (hw : swappedStores [.Subscript o i pos'] e X.env = pure none := by rfl)
    (h1 : (assignEach [.Subscript o i pos'] X.env).map (·.2) = [assign (.Subscript o i pos') X.env] := by rfl) : PDS X Wx (.Assign [.Subscript o i pos'] e pos) (sSetIx mo mi m) :=
  ⟨PS.weak (ps_asg he.pe (pg_sub ho.pe hi.pe set_list ha) hs hw h1) fun D σ H ⟨W, en, e, ok, er, q⟩ => by
    subst e
    refine seqS ok er q fun d W1 v ok1 e1 er1 r1 q1 => ?_
    refine seqS ok1 er1 q1 fun dO W2 vo ok2 e2 er2 r2 q2 => ?_
    refine seqS ok2 er2 q2 fun dI W3 vi ok3 e3 er3 r3 q3 => ?_
    cases dO with
    | cell n =>
      cases dI with
      | int k =>
        simp only at q3
        cases hst : W3.st[n]? with
        | none => rw [hst] at q3; exact q3.elim
        | some c =>
          rw [hst] at q3
          cases c with
          | lst ds =>
            simp only at q3
            cases hj : ixN ds.length k with
            | none => rw [hj] at q3; exact q3.elim
            | some j =>
              rw [hj] at q3
              obtain ⟨a, xs, rfl, hA, hH, hr⟩ := cell_lst ok3 (r2.ext e3) hst
              refine ⟨a, xs, k, j, rfl, r3.int_inv, hH, by rw [← hr.length]; exact hj, ?_⟩
              exact q3 (W3.put n a (.lst (xs.set j v)) (.lst (ds.set j d))) σ rfl (put_lst_ok ok3 hA hst rfl (hr.set j ((r1.ext e2).ext e3))) (put_ext ok3 hA hst rfl _ _) (er3.ext (put_ext ok3 hA hst rfl _ _))
          | _ => exact q3.elim
      | _ => exact q3.elim
    | _ => exact q3.elim⟩
end
end Pd

namespace Pd
open PySem PySem.Spec L2
variable [Codes]

/-! ## what is walked -/
abbrev IM := En → Sto → Out (List D)
def PostI (C : Cn) (Wx : WX) (W : Wd) (σ : St) (R : It → Hp → Prop) : Out (List D) → Prop
  | .ok ds st' => ∀ (W1 : Wd) (J : It) (Y : Nat → Hp → V → Hp → Prop) (G : Hp → Prop), W1.st = st' → WOk C W1 → Ext W W1 → Walk J ds.length G Y → (∀ W2, WOk C W2 → Mn W1 W2 → G W2.H) →
      (∀ (i : Nat) (W2 : Wd) (x : V) (H' : Hp), i < ds.length → WOk C W2 → Mn W1 W2 → Y i W2.H x H' → ∃ W3 d, W3.H = H' ∧ W3.st = W2.st ∧ WOk C W3 ∧ Ext W2 W3 ∧ ds[i]? = some d ∧ Rep C W3 d x) → R J W1.H
  | .err e st' => ∀ W' cls dd, W'.st = st' → WOk C W' → Ext W W' → ExR C W' e cls dd → Wx cls dd σ W'.H
  | .bad => False
def tDI (C : Cn) (Wx : WX) (m : IM) : TI := fun σ H R => ∃ W en, W.H = H ∧ WOk C W ∧ EnvR C W σ en ∧ PostI C Wx W σ R (m en W.st)
structure PDI (X : Cx) (Wx : WX) (tg e : Expr) (m : IM) : Prop where
  pi : PI X tg e (tDI (cn X) Wx m)
theorem PI.weak {X : Cx} {tg e : Expr} {t t' : TI} (h : PI X tg e t) (f : ∀ σ H R, t' σ H R → t σ H R) : PI X tg e t' := ⟨fun pins s σ H R I q => h.run pins s σ H R I (f σ H R q)⟩
theorem PostI.ext {C : Cn} {Wx : WX} {W W' : Wd} {σ : St} {R : It → Hp → Prop} {o : Out (List D)} (h : PostI C Wx W σ R o) (e : Ext W W') : PostI C Wx W' σ R o := by
  cases o with
  | ok ds st => exact fun W1 J Y G h1 h2 h3 => h W1 J Y G h1 h2 (e.trans h3)
  | err x st => exact fun W2 c dd h1 h2 h3 => h W2 c dd h1 h2 (e.trans h3)
  | bad => exact h
theorem seqI {C : Cn} {Wx : WX} {W : Wd} {σ : St} {en : En} {m : EM} {f : D → Sto → Out (List D)} {Q : It → Hp → Prop} {R : VK} (ok : WOk C W) (er : EnvR C W σ en) (h : PostI C Wx W σ Q (mb (m en W.st) f))
    (hok : ∀ d W' v, WOk C W' → Ext W W' → EnvR C W' σ en → Rep C W' d v → PostI C Wx W' σ Q (f d W'.st) → R v W'.H) : tD C Wx m σ W.H R := by
  refine ⟨W, en, rfl, ok, er, ?_⟩
  cases e : m en W.st with
  | ok d st =>
    rw [e] at h
    exact fun W' v h1 h2 h3 h4 => hok d W' v h2 h3 (er.ext h3) h4 (by subst h1; exact PostI.ext h h3)
  | err x st => rw [e] at h; exact h
  | bad => rw [e] at h; exact h
theorem seqLI {C : Cn} {Wx : WX} {W : Wd} {σ : St} {en : En} {m : LM} {f : List D → Sto → Out (List D)} {Q : It → Hp → Prop} {R : List V → Hp → Prop} (ok : WOk C W) (er : EnvR C W σ en) (h : PostI C Wx W σ Q (mb (m en W.st) f))
    (hok : ∀ d W' v, WOk C W' → Ext W W' → EnvR C W' σ en → RepL C W' d v → PostI C Wx W' σ Q (f d W'.st) → R v W'.H) : tDL C Wx m σ W.H R := by
  refine ⟨W, en, rfl, ok, er, ?_⟩
  cases e : m en W.st with
  | ok d st =>
    rw [e] at h
    exact fun W' v h1 h2 h3 h4 => hok d W' v h2 h3 (er.ext h3) h4 (by subst h1; exact PostI.ext h h3)
  | err x st => rw [e] at h; exact h
  | bad => rw [e] at h; exact h
theorem LstAt.mn {K : PySem.W.Frag} {W W' : Wd} {a : Addr} {xs : List V} (h : LstAt K W a xs) (e : Mn W W') : LstAt K W' a xs := e.keep a _ h.1 rfl h.2
theorem TupAt.mn {K : PySem.W.Frag} {W W' : Wd} {a : Addr} {xs : List V} (h : TupAt K W a xs) (e : Mn W W') : TupAt K W' a xs := by
  rcases h with ⟨h1, h2⟩ | h
  · exact .inl (Rd.mn e rfl h1 h2)
  · exact .inr h
section
variable {X : Cx} {Wx : WX} {pos : Pos} {e a b c tg iter : Expr} {es : List Expr} {m ma mb' : EM} {lm : LM} {im : IM}
def iLst (m : EM) : IM := fun en st => mb (m en st) fun d st => match d with | .lst ds => .ok ds st | _ => .bad
def iTup (m : EM) : IM := fun en st => mb (m en st) fun d st => match d with | .tup ds => .ok ds st | _ => .bad
theorem pdi_lst (h : PD X Wx e m) : PDI X Wx tg e (iLst m) := ⟨PI.weak (pi_list h.pe) fun σ H R ⟨W, en, e, ok, er, q⟩ => by
  subst e
  refine seqI ok er q fun d W1 v ok1 e1 er1 r1 q1 => ?_
  cases d with
  | lst ds =>
    obtain ⟨a, xs, rfl, hl, hr⟩ := r1.lst_inv
    refine ⟨a, rfl, ⟨xs, hl.sq⟩, ?_⟩
    refine q1 W1 _ _ (fun H => SqL X.K H a xs) rfl ok1 (Ext.refl _) (by rw [hr.length]; exact walk_list) (fun W2 ok2 e2 => (hl.mn e2).sq) fun i W2 x H' hi ok2 e2 y => ?_
    obtain ⟨rfl, hx⟩ := y
    obtain ⟨d, hd, hrd⟩ := hr.getV hx
    exact ⟨W2, d, rfl, rfl, ok2, Ext.refl _, hd, hrd.mn e2⟩
  | _ => exact q1.elim⟩
theorem pdi_tup (h : PD X Wx e m) : PDI X Wx tg e (iTup m) := ⟨PI.weak (pi_tup h.pe) fun σ H R ⟨W, en, e, ok, er, q⟩ => by
  subst e
  refine seqI ok er q fun d W1 v ok1 e1 er1 r1 q1 => ?_
  cases d with
  | tup ds =>
    obtain ⟨a, xs, rfl, hl, hr⟩ := r1.tup_inv
    refine ⟨a, rfl, ⟨xs, hl.sq⟩, ?_⟩
    refine q1 W1 _ _ (fun H => SqT X.K H a xs) rfl ok1 (Ext.refl _) (by rw [hr.length]; exact walk_tup) (fun W2 ok2 e2 => (hl.mn e2).sq) fun i W2 x H' hi ok2 e2 y => ?_
    obtain ⟨rfl, hx⟩ := y
    obtain ⟨d, hd, hrd⟩ := hr.getV hx
    exact ⟨W2, d, rfl, rfl, ok2, Ext.refl _, hd, hrd.mn e2⟩
  | _ => exact q1.elim⟩
/-- range(n), range(a, b) -/
def rng (lo : Int) (n : Nat) : List D := (List.range n).map fun i => D.int (lo + (i : Nat))
theorem rng_len (lo : Int) (n : Nat) : (rng lo n).length = n := by simp [rng]
theorem rng_get {lo : Int} {n i : Nat} (h : i < n) : (rng lo n)[i]? = some (.int (lo + (i : Nat))) := by simp [rng, h]
def iRng1 (m : EM) : IM := fun en st => mb (m en st) fun d st => match d with
  | .int j => if -(2 ^ 62) ≤ j ∧ j < 2 ^ 62 then .ok (rng 0 j.toNat) st else .bad
  | _ => .bad
def iRng2 (ma mb' : EM) : IM := fun en st => mb (ma en st) fun d st => mb (mb' en st) fun d' st => match d, d' with
  | .int i, .int j => if -(2 ^ 62) ≤ i ∧ i < 2 ^ 62 ∧ -(2 ^ 62) ≤ j ∧ j < 2 ^ 62 then .ok (rng i (j - i).toNat) st else .bad
  | _, _ => .bad
theorem rng_walk {C : Cn} {Wx : WX} {W1 : Wd} {σ : St} {R : It → Hp → Prop} {lo : Int} {n : Nat} (ok1 : WOk C W1) (q1 : PostI C Wx W1 σ R (.ok (rng lo n) W1.st)) : R (Itr lo n) W1.H := by
  refine q1 W1 (Itr lo n) _ (fun _ => True) rfl ok1 (Ext.refl _) (by rw [rng_len]; exact walk_range) (fun _ _ _ => trivial) fun i W2 x H' hi ok2 e2 y => ?_
  obtain ⟨rfl, rfl⟩ := y
  rw [rng_len] at hi
  exact ⟨W2, _, rfl, rfl, ok2, Ext.refl _, rng_get hi, .int _⟩
theorem pdi_rng1 {p : Pos} (h : PD X Wx a m) (hm : X.mg "range" = none) (hg : Gl X "range" := by rfl) (hs : starEach [a] X.env = [(false, eval a X.env)] := by rfl) : PDI X Wx tg (.Call (.Name "range" p) [a] [] pos) (iRng1 m) :=
  ⟨PI.weak (pi_range1 hg hm (pa_cons h.pe pa_nil hs) hs) fun σ H R ⟨W, en, e, ok, er, q⟩ => by
    subst e
    refine seqI ok er q fun d W1 v ok1 e1 er1 r1 q1 => ?_
    cases d with
    | int j =>
      simp only at q1
      by_cases hj : -(2 ^ 62) ≤ j ∧ j < 2 ^ 62
      · rw [if_pos hj] at q1
        exact ⟨j, by rw [r1.int_inv], hj.1, hj.2, rng_walk ok1 q1⟩
      · rw [if_neg hj] at q1; exact q1.elim
    | _ => exact q1.elim⟩
theorem pdi_rng2 {p : Pos} (h : PD X Wx a ma) (h' : PD X Wx b mb') (hm : X.mg "range" = none) (hg : Gl X "range" := by rfl) (hs : starEach [a, b] X.env = [(false, eval a X.env), (false, eval b X.env)] := by rfl) (hs2 : starEach [b] X.env = [(false, eval b X.env)] := by rfl)
    (h1 : starEach (a :: [b]) X.env = (false, eval a X.env) :: starEach [b] X.env := by rfl) : PDI X Wx tg (.Call (.Name "range" p) [a, b] [] pos) (iRng2 ma mb') :=
  ⟨PI.weak (pi_range2 hg hm (pa_cons h.pe (pa_cons h'.pe pa_nil hs2) h1) hs hs2) fun σ H R ⟨W, en, e, ok, er, q⟩ => by
    subst e
    refine seqI ok er q fun d W1 v ok1 e1 er1 r1 q1 => ?_
    refine seqI ok1 er1 q1 fun d' W2 v' ok2 e2 er2 r2 q2 => ?_
    cases d with
    | int i =>
      cases d' with
      | int j =>
        simp only at q2
        by_cases hj : -(2 ^ 62) ≤ i ∧ i < 2 ^ 62 ∧ -(2 ^ 62) ≤ j ∧ j < 2 ^ 62
        · rw [if_pos hj] at q2
          exact ⟨i, j, by rw [r1.int_inv, r2.int_inv], hj, rng_walk ok2 q2⟩
        · rw [if_neg hj] at q2; exact q2.elim
      | _ => exact q2.elim
    | _ => exact q2.elim⟩
/-- a text, sign by sign -/
def signs (z : Str) : List D := z.cps.toList.map fun c => D.str ⟨#[c]⟩
def iStr (m : EM) : IM := fun en st => mb (m en st) fun d st => match d with | .str z => .ok (signs z) st | _ => .bad
theorem pdi_str (h : PD X Wx e m) : PDI X Wx tg e (iStr m) := ⟨PI.weak (pi_str h.pe) fun σ H R ⟨W, en, e, ok, er, q⟩ => by
  subst e
  refine seqI ok er q fun d W1 v ok1 e1 er1 r1 q1 => ?_
  cases d with
  | str z =>
    refine ⟨z, r1.str_inv, ?_⟩
    refine q1 W1 (Its z) _ (fun _ => True) rfl ok1 (Ext.refl _) (by show Walk _ (z.cps.toList.map _).length _ _; rw [List.length_map, Array.length_toList]; exact walk_str) (fun _ _ _ => trivial) fun i W2 x H' hi ok2 e2 y => ?_
    obtain ⟨rfl, ch, hc, rfl⟩ := y
    refine ⟨W2, _, rfl, rfl, ok2, Ext.refl _, ?_, .str _⟩
    show (z.cps.toList.map _)[i]? = _
    rw [List.getElem?_map, Array.getElem?_toList, hc] <;> rfl
  | _ => exact q1.elim⟩
/-- enumerate(list) -/
def enums (n : Int) : List D → List D
  | [] => []
  | d :: ds => .tup [.int n, d] :: enums (n + 1) ds
theorem enums_len : ∀ (n : Int) (ds : List D), (enums n ds).length = ds.length
  | _, [] => rfl
  | n, d :: ds => by unfold enums; rw [List.length_cons, List.length_cons, enums_len]
theorem enums_get : ∀ {n : Int} {ds : List D} {i : Nat} {d : D}, ds[i]? = some d → (enums n ds)[i]? = some (.tup [.int (n + (i : Nat)), d])
  | _, [], _, _, h => by simp at h
  | n, d :: ds, 0, _, h => by simp at h; subst h; simp [enums]
  | n, d :: ds, i + 1, _, h => by
    simp at h
    show (enums (n + 1) ds)[i]? = _
    rw [enums_get h]
    congr 4
    show n + 1 + (i : Int) = n + ((i + 1 : Nat) : Int)
    omega
def iEnumL (m : EM) : IM := fun en st => mb (m en st) fun d st => match d with | .lst ds => .ok (enums 0 ds) st | _ => .bad
end

/-! ## for, while -/
section
variable {X : Cx} {Wx : WX} {pos : Pos} {e a b c tg iter : Expr} {body : List Stmt} {im : IM} {gm : GM} {bm : SM} {vs : List Nat} {tm : TM}
def forLoop (g : GM) (body : SM) : List D → En → Sto → SOut
  | [], en, st => .nx en st
  | d :: ds, en, st => match g d en st with
    | none => .bad
    | some en' => match body en' st with
      | .nx en'' st'' => forLoop g body ds en'' st''
      | .ct en'' st'' => forLoop g body ds en'' st''
      | .bk en'' st'' => .nx en'' st''
      | o => o
def sFor (im : IM) (g : GM) (body : SM) : SM := fun en st => smb (im en st) en fun ds st => forLoop g body ds en st
theorem pds_for (hi : PDI X Wx tg iter im) (hg : PDG X vs tg gm) (hb : PDSs X Wx body bm) (hp : PassesOwn (model X.prog X.w) X.A X.env X.xe) (hc : X.calm = true) (hs : ∀ x, foldedSetIterable iter X.env x = pure x := by intro _; rfl) : PDS X Wx (.For tg iter body [] pos) (sFor im gm bm) :=
  ⟨PS.weak (ps_for hp hc hi.pi hg.pg hb.ps hs) fun Dn σ H ⟨W, en, e, ok, er, q⟩ => by
    subst e
    refine ⟨W, en, rfl, ok, er, ?_⟩
    unfold sFor at q
    cases hm : im en W.st with
    | err x st => rw [hm] at q; exact fun W' c dd h1 h2 h3 h4 => q W' σ c dd h1 h2 h3 (er.ext h3) h4
    | bad => rw [hm] at q; exact q.elim
    | ok ds st' =>
      rw [hm] at q
      intro W1 J Y G hs1 ok1 e1 wk hG hY
      have q1 : PostS (cn X) Wx W1 Dn (forLoop gm bm ds en W1.st) := by subst hs1; exact PostS.ext q e1
      refine for_it wk (fun i σ' H' => ∃ W2 en2, W2.H = H' ∧ WOk (cn X) W2 ∧ Ext W1 W2 ∧ EnvR (cn X) W2 σ' en2 ∧ PostS (cn X) Wx W2 Dn (forLoop gm bm (ds.drop i) en2 W2.st)) ⟨W1, en, rfl, ok1, Ext.refl _, er.ext e1, q1⟩ ?_ ?_ ?_
      · rintro i σ' H' _ ⟨W2, en2, rfl, ok2, e2, _, _⟩
        exact hG W2 ok2 e2.mn
      · rintro i x σ' H' H'' hi ⟨W2, en2, rfl, ok2, e2, er2, q2⟩ y
        obtain ⟨W3, d, h3, hs3, ok3, e3, hd, hr⟩ := hY i W2 x H'' hi ok2 e2.mn y
        have hdr : ds.drop i = d :: ds.drop (i + 1) := by
          obtain ⟨hl, hd'⟩ := List.getElem?_eq_some_iff.mp hd
          rw [List.drop_eq_getElem_cons hl, hd']
        rw [hdr] at q2
        have q3 : PostS (cn X) Wx W3 Dn (forLoop gm bm (d :: ds.drop (i + 1)) en2 W3.st) := by rw [hs3]; exact PostS.ext q2 e3
        unfold forLoop at q3
        cases hg' : gm d en2 W3.st with
        | none => rw [hg'] at q3; exact q3.elim
        | some en3 =>
          rw [hg'] at q3
          refine ⟨W3, en2, d, en3, h3, ok3, er2.ext e3, hr, hg', fun σ3 er3 _ => ⟨W3, en3, rfl, ok3, er3, ?_⟩⟩
          simp only at q3
          cases hbm : bm en3 W3.st with
          | nx en4 st4 =>
            rw [hbm] at q3
            exact fun W4 σ4 h1 h2 h3 h4 => ⟨W4, en4, rfl, h2, (e2.trans e3).trans h3, h4, by subst h1; exact PostS.ext q3 h3⟩
          | ct en4 st4 =>
            rw [hbm] at q3
            exact fun W4 σ4 h1 h2 h3 h4 => ⟨W4, en4, rfl, h2, (e2.trans e3).trans h3, h4, by subst h1; exact PostS.ext q3 h3⟩
          | bk en4 st4 => rw [hbm] at q3; exact q3
          | rt d st4 => rw [hbm] at q3; exact q3
          | err x en4 st4 => rw [hbm] at q3; exact q3
          | bad => rw [hbm] at q3; exact q3
      · rintro σ' H' ⟨W2, en2, rfl, ok2, e2, er2, q2⟩
        rw [List.drop_length] at q2
        exact q2 W2 σ' rfl ok2 (Ext.refl _) er2⟩
def whileLoop (c : TM) (body : SM) : Nat → En → Sto → SOut
  | 0, _, _ => .bad
  | n + 1, en, st => smb (c en st) en fun k st => if k = true then (match body en st with
      | .nx en'' st'' => whileLoop c body n en'' st''
      | .ct en'' st'' => whileLoop c body n en'' st''
      | .bk en'' st'' => .nx en'' st''
      | o => o) else .nx en st
def sWhile (fuel : Nat) (c : TM) (body : SM) : SM := fun en st => whileLoop c body fuel en st
theorem pds_while (fuel : Nat) (hc : PDT X Wx c tm) (hb : PDSs X Wx body bm) (hp : PassesOwn (model X.prog X.w) X.A X.env X.xe) : PDS X Wx (.While c body [] pos) (sWhile fuel tm bm) :=
  ⟨PS.weak (ps_while hp hc.pt hb.ps) fun Dn σ H ⟨W, en, e, ok, er, q⟩ => by
    subst e
    refine ⟨fun n σ' H' => ∃ W2 en2, W2.H = H' ∧ WOk (cn X) W2 ∧ EnvR (cn X) W2 σ' en2 ∧ PostS (cn X) Wx W2 Dn (whileLoop tm bm n en2 W2.st), ⟨fuel, W, en, rfl, ok, er, q⟩, ?_⟩
    rintro n σ' H' ⟨W2, en2, rfl, ok2, er2, q2⟩
    cases n with
    | zero => exact q2.elim
    | succ n =>
      unfold whileLoop at q2
      refine seqTS ok2 er2 q2 fun k W3 ok3 e3 er3 q3 => ?_
      cases k with
      | false => rw [if_neg Bool.false_ne_true]; exact q3 W3 σ' rfl ok3 (Ext.refl _) er3
      | true =>
        rw [if_pos rfl]
        refine ⟨fun σ'' H'' => ∃ W2 en2, W2.H = H'' ∧ WOk (cn X) W2 ∧ EnvR (cn X) W2 σ'' en2 ∧ PostS (cn X) Wx W2 Dn (whileLoop tm bm n en2 W2.st), fun σ'' H'' h => ⟨n, Nat.lt_succ_self _, h⟩, W3, en2, rfl, ok3, er3, ?_⟩
        simp only [if_true] at q3
        cases hbm : bm en2 W3.st with
        | nx en4 st4 =>
          rw [hbm] at q3
          exact fun W4 σ4 h1 h2 h3 h4 => ⟨W4, en4, rfl, h2, h4, by subst h1; exact PostS.ext q3 h3⟩
        | ct en4 st4 =>
          rw [hbm] at q3
          exact fun W4 σ4 h1 h2 h3 h4 => ⟨W4, en4, rfl, h2, h4, by subst h1; exact PostS.ext q3 h3⟩
        | bk en4 st4 => rw [hbm] at q3; exact q3
        | rt d st4 => rw [hbm] at q3; exact q3
        | err x en4 st4 => rw [hbm] at q3; exact q3
        | bad => rw [hbm] at q3; exact q3⟩
end

/-! ## list comprehensions -/
section
variable {X : Cx} {Wx : WX} {pos : Pos} {elt tg iter : Expr} {ifs : List Expr} {im : IM} {gm : GM} {em : EM} {tm : TM}
abbrev WF : WX := fun _ _ _ _ => False
structure PDTs (X : Cx) (Wx : WX) (ifs : List Expr) (m : TM) : Prop where
  pts : PTs X ifs (tDT (cn X) Wx m)
theorem PTs.weak {ifs : List Expr} {t t' : TT} (h : PTs X ifs t) (f : ∀ σ H Q, t' σ H Q → t σ H Q) : PTs X ifs t' := ⟨fun pins s σ H Q I q => h.run pins s σ H Q I (f σ H Q q)⟩
def tmYes : TM := fun _ st => .ok true st
theorem pdts_nil : PDTs X Wx [] tmYes := ⟨PTs.weak pts_nil fun σ H Q ⟨W, en, e, ok, er, q⟩ => by subst e; exact q W rfl ok (Ext.refl _)⟩
theorem pdts_one {c : Expr} (h : PDT X Wx c tm) : PDTs X Wx [c] tm := ⟨pts_one h.pt⟩
def wipeEn (vs : List Nat) (en : En) : En := vs.foldr (fun v e => e.set v none) en
def lcLoop (gm : GM) (tm : TM) (em : EM) (en : En) : List D → List D → Sto → Out (List D)
  | [], acc, st => .ok acc st
  | d :: ds, acc, st => match gm d en st with
    | none => .bad
    | some en' => match tm en' st with
      | .ok true st' => match em en' st' with
        | .ok d st'' => if acc.length < sizeLine then lcLoop gm tm em en ds (acc ++ [d]) st'' else .bad
        | _ => .bad
      | .ok false st' => lcLoop gm tm em en ds acc st'
      | _ => .bad
theorem lcLoop_cons (gm : GM) (tm : TM) (em : EM) (en : En) (d : D) (ds acc : List D) (st : Sto) : lcLoop gm tm em en (d :: ds) acc st = (match gm d en st with
    | none => .bad
    | some en' => match tm en' st with
      | .ok true st' => match em en' st' with
        | .ok d st'' => if acc.length < sizeLine then lcLoop gm tm em en ds (acc ++ [d]) st'' else .bad
        | _ => .bad
      | .ok false st' => lcLoop gm tm em en ds acc st'
      | _ => .bad) := rfl
def finL : List D → Sto → Out D := fun acc st => .ok (.lst acc) st
def finC : List D → Sto → Out D := fun acc st => .ok (.cell st.length) (st ++ [Cel.lst acc])
def mLc (im : IM) (gm : GM) (tm : TM) (em : EM) (vs : List Nat) : EM := fun en st => mb (im en st) fun ds st => mb (lcLoop gm tm em (wipeEn vs en) ds [] st) finL
def mLcC (im : IM) (gm : GM) (tm : TM) (em : EM) (vs : List Nat) : EM := fun en st => mb (im en st) fun ds st => mb (lcLoop gm tm em (wipeEn vs en) ds [] st) finC
/-- the list that is being made: not yet a datum -/
structure Mk1 (C : Cn) (W1 : Wd) (D' : Addr) (W2 : Wd) (acc : List D) (xs : List V) : Prop where
  ok : WOk C W2
  hid : W2.hid = D' :: W1.hid
  pre : W1.A <+: W2.A
  keep : ∀ a o, W1.H a = some o → nT o = true → ¬ CLive W1 a → W2.H a = some o ∧ ¬ CLive W2 a
  at_ : W2.H D' = some (.lst xs)
  nl : ¬ CLive W2 D'
  rep : RepL C W2 acc xs
  new : ∀ a, a ∈ W2.A → a ∈ W1.A ∨ ∀ o, W1.H a = some o → nX o = false
  nA : D' ∉ W2.A
  pc : ∀ n, n < W1.A.length → W2.pc n = W1.pc n
  tr : ∀ a, W2.H a = none → W1.H a = none
theorem Mk1.mn {C : Cn} {W1 W2 : Wd} {D' : Addr} {acc : List D} {xs : List V} (m : Mk1 C W1 D' W2 acc xs) (hD : W1.H D' = none) : Mn W1 W2 :=
  ⟨m.pre, fun a o h hn n => by
    obtain ⟨h1, h2⟩ := m.keep a o h (nT_of hn) fun z => n (.inl z)
    refine ⟨h1, fun z => ?_⟩
    rcases z with z | z
    · exact h2 z
    · rw [m.hid] at z
      rcases List.mem_cons.mp z with z | z
      · subst z; rw [hD] at h; cases h
      · exact n (.inr z)⟩
theorem Mk1.start {C : Cn} {W1 : Wd} {D' : Addr} (ok : WOk C W1) (hD : W1.H D' = none) : Mk1 C W1 D' { W1 with H := upd W1.H D' (.lst []), hid := D' :: W1.hid } [] [] := by
  have nl : ¬ Live W1 D' := ok.not_live hD
  have m : Mn W1 { W1 with H := upd W1.H D' (.lst []), hid := D' :: W1.hid } := by
    refine ⟨List.prefix_refl _, fun a o h _ n => ⟨upd_old hD _ h, fun z => ?_⟩⟩
    rcases z with z | z
    · exact n (.inl z)
    · rcases List.mem_cons.mp z with z | z
      · subst z; rw [hD] at h; cases h
      · exact n (.inr z)
  refine ⟨ok.mk' rfl rfl rfl m (fun b u h _ => upd_old hD _ h) (fun n a c h1 h2 _ => ?_) (fun a h => upd_there rfl h) (fun a h => ?_) (fun a h => (List.mem_cons.mp h).elim (fun z => by rw [z]; exact ok.fresh hD) (ok.hidA a)), rfl, List.prefix_refl _, fun a o h _ n => ⟨upd_old hD _ h, n⟩, upd_same, fun z => nl (.inl z), .nil, fun _ h => .inl h, ok.fresh hD, fun _ _ => rfl, fun a h => upd_gone h⟩
  · show upd W1.H D' _ a = _
    rw [upd_ne]
    intro z; subst z; exact (ok.at_ n _ c h1 h2).tracked hD
  · rcases List.mem_cons.mp h with z' | z'
    · subst z'; exact ⟨_, upd_same, rfl⟩
    · exact upd_there rfl (ok.hidT a z')
theorem Mk1.go {C : Cn} {W1 W2 W3 : Wd} {D' : Addr} {acc : List D} {xs : List V} (m : Mk1 C W1 D' W2 acc xs) (ok : WOk C W3) (e : Ext W2 W3) : Mk1 C W1 D' W3 acc xs := by
  obtain ⟨h1, h2⟩ := e.keep D' _ m.at_ rfl m.nl
  refine ⟨ok, e.hid.trans m.hid, m.pre.trans e.pre, fun a o h hn n => let ⟨q1, q2⟩ := m.keep a o h hn n; e.keep a o q1 hn q2, h1, h2, m.rep.ext e, fun a h => ?_, fun h => ?_, fun n hn => (e.pc n (Nat.lt_of_lt_of_le hn m.pre.length_le)).trans (m.pc n hn), fun a h => m.tr a (e.tr a h)⟩
  · rcases e.new a h with h | h
    · exact m.new a h
    · by_cases l : CLive W1 a
      · exact .inl l.mem
      · refine .inr fun o e1 => ?_
        cases k : nX o with
        | false => rfl
        | true => exact k.symm.trans (h o (m.keep a o e1 (nT_of k) l).1)
  · rcases e.new D' h with h | h
    · exact m.nA h
    · exact absurd (h _ m.at_) (fun z => nomatch z)
theorem Mk1.push {C : Cn} {W1 W2 : Wd} {D' : Addr} {acc : List D} {xs : List V} {d : D} {y : V} (m : Mk1 C W1 D' W2 acc xs) (hD : W1.H D' = none) (r : Rep C W2 d y) : Mk1 C W1 D' { W2 with H := upd W2.H D' (.lst (xs ++ [y])) } (acc ++ [d]) (xs ++ [y]) := by
  have old : ∀ a u, W2.H a = some u → nX u = false → upd W2.H D' (.lst (xs ++ [y])) a = some u := fun a u h k => by
    rw [upd_ne]; exact h
    intro z; subst z; rw [m.at_] at h; cases h; cases k
  have mn : Mn W2 { W2 with H := upd W2.H D' (.lst (xs ++ [y])) } := by
    refine ⟨List.prefix_refl _, fun a o h _ n => ⟨?_, n⟩⟩
    show upd W2.H D' _ a = _
    rw [upd_ne]; exact h
    intro z; subst z
    exact n (.inr (by rw [m.hid]; exact List.mem_cons_self))
  refine ⟨m.ok.mk' rfl rfl rfl mn old (fun n a c h1 h2 h3 => ?_) (fun a h => upd_there rfl h) (fun a h => upd_there rfl (m.ok.hidT a h)) m.ok.hidA, m.hid, m.pre, fun a o h hn n => ?_, upd_same, m.nl, (m.rep.mn mn).append (.cons (r.mn mn) .nil), m.new, m.nA, m.pc, fun a h => m.tr a (upd_gone h)⟩
  · show upd W2.H D' _ a = _
    rw [upd_ne]
    intro z; subst z; exact m.nl ⟨n, c, h1, h2, box_live h3⟩
  · obtain ⟨q1, q2⟩ := m.keep a o h hn n
    refine ⟨?_, q2⟩
    show upd W2.H D' _ a = _
    rw [upd_ne]; exact q1
    intro z; subst z; rw [hD] at h; cases h
theorem Mk1.done {C : Cn} {W1 W2 : Wd} {D' : Addr} {acc : List D} {xs : List V} (m : Mk1 C W1 D' W2 acc xs) (ok1 : WOk C W1) (hD : W1.H D' = none) :
    WOk C { W2 with hid := W1.hid } ∧ Ext W1 { W2 with hid := W1.hid } ∧ Rep C { W2 with hid := W1.hid } (.lst acc) (.ref D') := by
  have mn : Mn W2 { W2 with hid := W1.hid } := ⟨List.prefix_refl _, fun a o h _ n => ⟨h, fun z => by
    rcases z with z | z
    · exact n (.inl z)
    · exact n (.inr (by rw [m.hid]; exact List.mem_cons_of_mem _ z))⟩⟩
  have ok' : WOk C { W2 with hid := W1.hid } := m.ok.mk' rfl rfl rfl mn (fun _ _ h _ => h) (fun _ _ _ _ _ _ => rfl) (fun _ h => h) (fun a h => m.ok.hidT a (by rw [m.hid]; exact List.mem_cons_of_mem _ h)) fun a h => m.ok.hidA a (by rw [m.hid]; exact List.mem_cons_of_mem _ h)
  refine ⟨ok', ⟨m.pre, rfl, m.keep, m.new, m.pc, m.tr⟩, ?_⟩
  unfold Rep
  refine ⟨D', xs, rfl, ⟨m.at_, fun z => ?_⟩, m.rep.mn mn⟩
  rcases z with z | z
  · exact m.nl z
  · exact (ok1.hidT D' z).ne hD
theorem Mk1.doneC {C : Cn} {W1 W2 : Wd} {D' : Addr} {acc : List D} {xs : List V} (m : Mk1 C W1 D' W2 acc xs) (ok1 : WOk C W1) (hD : W1.H D' = none) :
    WOk C ⟨W2.H, W2.A ++ [D'], W2.st ++ [.lst acc], W1.hid, W2.pc⟩ ∧ Ext W1 ⟨W2.H, W2.A ++ [D'], W2.st ++ [.lst acc], W1.hid, W2.pc⟩ ∧ Rep C ⟨W2.H, W2.A ++ [D'], W2.st ++ [.lst acc], W1.hid, W2.pc⟩ (.cell W2.st.length) (.ref D') := by
  have live : ∀ a, CLive ⟨W2.H, W2.A ++ [D'], W2.st ++ [.lst acc], W1.hid, W2.pc⟩ a → CLive W2 a ∨ a = D' := fun a h => app_live m.ok rfl rfl h
  have mn : Mn W2 ⟨W2.H, W2.A ++ [D'], W2.st ++ [.lst acc], W1.hid, W2.pc⟩ := ⟨⟨[D'], rfl⟩, fun a o h _ n => ⟨h, fun z => by
    rcases z with z | z
    · rcases live a z with z | z
      · exact n (.inl z)
      · exact n (.inr (by rw [m.hid, z]; exact List.mem_cons_self))
    · exact n (.inr (by rw [m.hid]; exact List.mem_cons_of_mem _ z))⟩⟩
  refine ⟨m.ok.app' (c := .lst acc) rfl rfl (fun _ _ => rfl) mn m.ok.tabs (fun _ _ h _ _ => h) (fun _ _ _ _ _ _ => rfl) (fun _ h => h) (fun a h => m.ok.hidT a (by rw [m.hid]; exact List.mem_cons_of_mem _ h)) (fun a h => ⟨m.ok.hidA a (by rw [m.hid]; exact List.mem_cons_of_mem _ h), fun z => (ok1.hidT a h).ne (by rw [z]; exact hD)⟩) m.nA (.inl rfl) ⟨xs, m.at_, m.rep.mn mn⟩,
    ⟨m.pre.trans ⟨[D'], rfl⟩, rfl, fun a o h hn n => ?_, fun a h => ?_, m.pc, m.tr⟩, ?_⟩
  · obtain ⟨q1, q2⟩ := m.keep a o h hn n
    refine ⟨q1, fun z => ?_⟩
    rcases live a z with z | z
    · exact q2 z
    · subst z; rw [hD] at h; cases h
  · rcases List.mem_append.mp (show a ∈ W2.A ++ [D'] from h) with h | h
    · exact m.new a h
    · simp at h; subst h; exact .inr fun o e => by rw [hD] at e; cases e
  · unfold Rep
    refine ⟨D', rfl, ?_⟩
    show (W2.A ++ [D'])[W2.st.length]? = some D'
    rw [← m.ok.len]; simp
/-- what the two ends ask -/
theorem lc_read {σ : St} {W : Wd} {en : En} {Q : VK} {vs : List Nat} {fin : List D → Sto → Out D} (ok : WOk (cn X) W) (er : EnvR (cn X) W σ en)
    (hfin : ∀ W1 W2 D' acc xs, Ext W W1 → WOk (cn X) W1 → W1.H D' = none → Mk1 (cn X) W1 D' W2 acc xs → PostE (cn X) Wx W σ Q (fin acc W2.st) → Q (.ref D') W2.H)
    (q : PostE (cn X) Wx W σ Q (mb (im en W.st) fun ds st => mb (lcLoop gm tm em (wipeEn vs en) ds [] st) fin)) :
    tLc (tDI (cn X) Wx im) (tDG (cn X) vs gm) (tDT (cn X) WF tm) (tD (cn X) WF em) vs σ W.H Q := by
  refine ⟨W, en, rfl, ok, er, ?_⟩
  cases hm : im en W.st with
  | err x st => rw [hm] at q; exact q
  | bad => rw [hm] at q; exact q.elim
  | ok ds st' =>
    rw [hm] at q
    have q : PostE (cn X) Wx W σ Q (mb (lcLoop gm tm em (wipeEn vs en) ds [] st') fin) := q
    intro W1 J Y G hs1 ok1 e1 wk hG hY D' hD
    subst hs1
    have nb : lcLoop gm tm em (wipeEn vs en) ds [] W1.st ≠ .bad := fun z => by rw [z] at q; exact q.elim
    refine lc_it wk (fun i H' => ∃ W2 acc xs, W2.H = H' ∧ Mk1 (cn X) W1 D' W2 acc xs ∧ lcLoop gm tm em (wipeEn vs en) ds [] W1.st = lcLoop gm tm em (wipeEn vs en) (ds.drop i) acc W2.st)
      ⟨_, [], [], rfl, Mk1.start ok1 hD, rfl⟩ ?_ ?_ ?_
    · rintro i _ _ ⟨W2, acc, xs, rfl, mk, _⟩
      exact hG W2 mk.ok (mk.mn hD)
    · rintro i x _ H' hi ⟨W2, acc, xs, rfl, mk, hl⟩ y
      obtain ⟨W3, d, h3, hs3, ok3, e3, hd, hr⟩ := hY i W2 x H' hi mk.ok (mk.mn hD) y
      subst h3
      have mk3 := mk.go ok3 e3
      have hdr : ds.drop i = d :: ds.drop (i + 1) := by
        obtain ⟨hl, hd'⟩ := List.getElem?_eq_some_iff.mp hd
        rw [List.drop_eq_getElem_cons hl, hd']
      rw [hdr] at hl
      rw [lcLoop_cons, ← hs3] at hl
      have er3 : EnvR (cn X) W3 (L2.wipe σ vs) (wipeEn vs en) := ((er.ext e1).mn (mk3.mn hD)).wipe vs
      cases hg' : gm d (wipeEn vs en) W3.st with
      | none => rw [hg'] at hl; exact absurd hl nb
      | some en3 =>
        rw [hg'] at hl
        refine ⟨W3, wipeEn vs en, d, en3, rfl, ok3, er3, hr, hg', fun σ3 er3' hw => ⟨by rw [hw, wipe_wipe], W3, en3, rfl, ok3, er3', ?_⟩⟩
        simp only at hl
        cases ht : tm en3 W3.st with
        | err x st => rw [ht] at hl; exact absurd hl nb
        | bad => rw [ht] at hl; exact absurd hl nb
        | ok k st4 =>
          rw [ht] at hl
          intro W4 hs4 ok4 e4
          have mk4 := mk3.go ok4 e4
          cases k with
          | false =>
            rw [if_neg Bool.false_ne_true]
            exact ⟨W4, acc, xs, rfl, mk4, by rw [hs4]; exact hl⟩
          | true =>
            rw [if_pos rfl]
            refine ⟨W4, en3, rfl, ok4, er3'.ext e4, ?_⟩
            subst hs4
            simp only at hl
            cases he : em en3 W4.st with
            | err x st => rw [he] at hl; exact absurd hl nb
            | bad => rw [he] at hl; exact absurd hl nb
            | ok d' st5 =>
              rw [he] at hl
              intro W5 v5 hs5 ok5 e5 r5
              have mk5 := mk4.go ok5 e5
              simp only at hl
              by_cases hsz : acc.length < sizeLine
              · rw [if_pos hsz] at hl
                refine ⟨xs, mk5.at_, by rw [← mk5.rep.length]; exact hsz, _, acc ++ [d'], xs ++ [v5], rfl, mk5.push hD r5, ?_⟩
                rw [hl]
                show _ = lcLoop gm tm em (wipeEn vs en) (ds.drop (i + 1)) (acc ++ [d']) W5.st
                rw [hs5]
              · rw [if_neg hsz] at hl; exact absurd hl nb
    · rintro _ ⟨W2, acc, xs, rfl, mk, hl⟩
      rw [List.drop_length] at hl
      rw [hl] at q
      exact hfin W1 W2 D' acc xs e1 ok1 hD mk q
abbrev blkOf (X : Cx) (scope : Scope) (s : Shared) (H : Hp) (C : Addr) (cl : List (Str × Addr)) (fp : List Addr) : Cx := X.blk s H scope (compEnvC scope cl C X.env) fp
theorem pd_lc {scope : Scope} {own : List (Str × Nat)} (hi : PDI X Wx tg iter im) (hg : ∀ s H C cl fp, PDG (blkOf X scope s H C cl fp) (own.map (·.2)) tg gm)
    (ht : ∀ s H C cl fp, PDTs (blkOf X scope s H C cl fp) WF ifs tm) (he : ∀ s H C cl fp, PD (blkOf X scope s H C cl fp) WF elt em)
    (hc : X.calm = true) (hN : X.N.Nodup) (ok : blkC X.N X.env.scope scope own = true) (hs : ∀ x, foldedSetIterable iter X.env x = pure x := by intro _; rfl) :
    PD X Wx (.ListComp elt [⟨tg, iter, ifs, 0⟩] scope pos) (mLc im gm tm em (own.map (·.2))) :=
  ⟨PE.weak (pe_lc hc hN hi.pi (blkOk_by ok) (fun s H C cl fp => (hg s H C cl fp).pg) (fun s H C cl fp => (ht s H C cl fp).pts) (fun s H C cl fp => (he s H C cl fp).pe) hs) fun σ H Q ⟨W, en, e, okw, er, q⟩ => by
    subst e
    refine lc_read (im := im) (gm := gm) (tm := tm) (em := em) (fin := finL) okw er (fun W1 W2 D' acc xs e1 ok1 hD mk q2 => ?_) q
    obtain ⟨h1, h2, h3⟩ := mk.done ok1 hD
    exact q2 { W2 with hid := W1.hid } _ rfl h1 (e1.trans h2) h3⟩
theorem pd_lcC {scope : Scope} {own : List (Str × Nat)} (hi : PDI X Wx tg iter im) (hg : ∀ s H C cl fp, PDG (blkOf X scope s H C cl fp) (own.map (·.2)) tg gm)
    (ht : ∀ s H C cl fp, PDTs (blkOf X scope s H C cl fp) WF ifs tm) (he : ∀ s H C cl fp, PD (blkOf X scope s H C cl fp) WF elt em)
    (hc : X.calm = true) (hN : X.N.Nodup) (ok : blkC X.N X.env.scope scope own = true) (hs : ∀ x, foldedSetIterable iter X.env x = pure x := by intro _; rfl) :
    PD X Wx (.ListComp elt [⟨tg, iter, ifs, 0⟩] scope pos) (mLcC im gm tm em (own.map (·.2))) :=
  ⟨PE.weak (pe_lc hc hN hi.pi (blkOk_by ok) (fun s H C cl fp => (hg s H C cl fp).pg) (fun s H C cl fp => (ht s H C cl fp).pts) (fun s H C cl fp => (he s H C cl fp).pe) hs) fun σ H Q ⟨W, en, e, okw, er, q⟩ => by
    subst e
    refine lc_read (im := im) (gm := gm) (tm := tm) (em := em) (fin := finC) okw er (fun W1 W2 D' acc xs e1 ok1 hD mk q2 => ?_) q
    obtain ⟨h1, h2, h3⟩ := mk.doneC ok1 hD
    exact q2 ⟨W2.H, W2.A ++ [D'], W2.st ++ [.lst acc], W1.hid, W2.pc⟩ _ rfl h1 (e1.trans h2) h3⟩
/-- name = [..] -/
theorem pds_setLc {scope : Scope} {own : List (Str × Nat)} {i : Nat} {y : Str} {py spos : Pos} (hi : PDI X Wx tg iter im) (hg : ∀ s H C cl fp, PDG (blkOf X scope s H C cl fp) (own.map (·.2)) tg gm)
    (ht : ∀ s H C cl fp, PDTs (blkOf X scope s H C cl fp) WF ifs tm) (he : ∀ s H C cl fp, PD (blkOf X scope s H C cl fp) WF elt em)
    (hc : X.calm = true) (hN : X.N.Nodup) (ok : blkC X.N X.env.scope scope own = true) (hsw : swapsWith (.ListComp elt [⟨tg, iter, ifs, 0⟩] scope pos) (some (.Name y py)) spos.line X.env = pure true)
    (hy : X.N[i]? = some y := by rfl) (hyl : X.env.scope.names.lookup y = some .local := by rfl) (hs : ∀ x, foldedSetIterable iter X.env x = pure x := by intro _; rfl) :
    PDS X Wx (.Assign [.Name y py] (.ListComp elt [⟨tg, iter, ifs, 0⟩] scope pos) spos) (sSet i (mLc im gm tm em (own.map (·.2)))) :=
  ⟨PS.weak (ps_setLc hc hN hy hyl hsw hi.pi (blkOk_by ok) (fun s H C cl fp => (hg s H C cl fp).pg) (fun s H C cl fp => (ht s H C cl fp).pts) (fun s H C cl fp => (he s H C cl fp).pe) hs) fun Dn σ H ⟨W, en, e, okw, er, q⟩ => by
    subst e
    show tLc _ _ _ _ _ σ W.H fun x H1 => Dn.nx (σ.set i (some x)) H1
    refine lc_read (Wx := Wx) (im := im) (gm := gm) (tm := tm) (em := em) (fin := finL) okw er (fun W1 W2 D' acc xs e1 ok1 hD mk q2 => ?_) ?_
    · obtain ⟨h1, h2, h3⟩ := mk.done ok1 hD
      exact q2 { W2 with hid := W1.hid } _ rfl h1 (e1.trans h2) h3
    · unfold sSet at q
      have : ∀ o : Out D, PostS (cn X) Wx W Dn (smb o en fun d st => .nx (en.set i (some d)) st) → PostE (cn X) Wx W σ (fun x H1 => Dn.nx (σ.set i (some x)) H1) o := fun o q => by
        cases o with
        | ok d st => exact fun W' v h1 h2 h3 h4 => q W' _ h1 h2 h3 ((er.ext h3).set i h4)
        | err x st => exact fun W' c dd h1 h2 h3 h4 => q W' σ c dd h1 h2 h3 (er.ext h3) h4
        | bad => exact q
      exact this _ q⟩
theorem pds_setLcC {scope : Scope} {own : List (Str × Nat)} {i : Nat} {y : Str} {py spos : Pos} (hi : PDI X Wx tg iter im) (hg : ∀ s H C cl fp, PDG (blkOf X scope s H C cl fp) (own.map (·.2)) tg gm)
    (ht : ∀ s H C cl fp, PDTs (blkOf X scope s H C cl fp) WF ifs tm) (he : ∀ s H C cl fp, PD (blkOf X scope s H C cl fp) WF elt em)
    (hc : X.calm = true) (hN : X.N.Nodup) (ok : blkC X.N X.env.scope scope own = true) (hsw : swapsWith (.ListComp elt [⟨tg, iter, ifs, 0⟩] scope pos) (some (.Name y py)) spos.line X.env = pure true)
    (hy : X.N[i]? = some y := by rfl) (hyl : X.env.scope.names.lookup y = some .local := by rfl) (hs : ∀ x, foldedSetIterable iter X.env x = pure x := by intro _; rfl) :
    PDS X Wx (.Assign [.Name y py] (.ListComp elt [⟨tg, iter, ifs, 0⟩] scope pos) spos) (sSet i (mLcC im gm tm em (own.map (·.2)))) :=
  ⟨PS.weak (ps_setLc hc hN hy hyl hsw hi.pi (blkOk_by ok) (fun s H C cl fp => (hg s H C cl fp).pg) (fun s H C cl fp => (ht s H C cl fp).pts) (fun s H C cl fp => (he s H C cl fp).pe) hs) fun Dn σ H ⟨W, en, e, okw, er, q⟩ => by
    subst e
    show tLc _ _ _ _ _ σ W.H fun x H1 => Dn.nx (σ.set i (some x)) H1
    refine lc_read (Wx := Wx) (im := im) (gm := gm) (tm := tm) (em := em) (fin := finC) okw er (fun W1 W2 D' acc xs e1 ok1 hD mk q2 => ?_) ?_
    · obtain ⟨h1, h2, h3⟩ := mk.doneC ok1 hD
      exact q2 ⟨W2.H, W2.A ++ [D'], W2.st ++ [.lst acc], W1.hid, W2.pc⟩ _ rfl h1 (e1.trans h2) h3
    · unfold sSet at q
      have : ∀ o : Out D, PostS (cn X) Wx W Dn (smb o en fun d st => .nx (en.set i (some d)) st) → PostE (cn X) Wx W σ (fun x H1 => Dn.nx (σ.set i (some x)) H1) o := fun o q => by
        cases o with
        | ok d st => exact fun W' v h1 h2 h3 h4 => q W' _ h1 h2 h3 ((er.ext h3).set i h4)
        | err x st => exact fun W' c dd h1 h2 h3 h4 => q W' σ c dd h1 h2 h3 (er.ext h3) h4
        | bad => exact q
      exact this _ q⟩
end
end Pd

namespace Pd
open PySem PySem.Spec L2
open PyProof.Rows hiding St
variable [Codes]

/-! ## calls of defs; the call's context also tells that no repr is going on -/
structure RG (k : Nat) (A : Around) : Prop where
  rm : Room k A
  gd : A.guards = some []
theorem RG.mono {j k : Nat} {A : Around} (r : RG k A) (h : j ≤ k) : RG j A := ⟨r.rm.mono h, r.gd⟩
theorem RG.deeper {k : Nat} {A : Around} (r : RG (k + 1) A) (env : Env) : RG k (A.deeper env) := ⟨r.rm.deeper env, r.gd⟩
structure FnG (P : Program) (w : World) (K : PySem.W.Frag) (mg : Str → Option Value) (base : Heap) (k : Nat) (f : Addr) (fd : FuncData) (ps : List Str) (sp : Sp) : Prop where
  len : ∀ vs H Q E, sp vs H Q E → vs.length = ps.length
  run : ∀ (A : Around) (outer : List Env) (s : Shared) (H : Hp) (args : Args) (us : List Value) (vs : List V) (Q : VK) (E : XK), RG k A → Env0 P w K mg base A outer s H →
    BindsTo s fd args (ps.zip us) → Vals vs us → sp vs H Q E → codeAny (model P w) A (.call (.ref f) args) (CR (L2.CX P w) outer P w H s Q E) s
theorem FnG.mono {P : Program} {w : World} {K : PySem.W.Frag} {mg : Str → Option Value} {base : Heap} {j k : Nat} {f : Addr} {fd : FuncData} {ps : List Str} {sp : Sp} (F : FnG P w K mg base j f fd ps sp) (h : j ≤ k) : FnG P w K mg base k f fd ps sp :=
  ⟨F.len, fun A outer s H args us vs Q E hr he hb hv hs => F.run A outer s H args us vs Q E (hr.mono h) he hb hv hs⟩
theorem FnG.imp {P : Program} {w : World} {K : PySem.W.Frag} {mg : Str → Option Value} {base : Heap} {k : Nat} {f : Addr} {fd : FuncData} {ps : List Str} {sp sp' : Sp} (F : FnG P w K mg base k f fd ps sp) (h : ∀ vs H Q E, sp' vs H Q E → sp vs H Q E) : FnG P w K mg base k f fd ps sp' :=
  ⟨fun vs H Q E q => F.len vs H Q E (h _ _ _ _ q), fun A outer s H args us vs Q E hr he hb hv hs => F.run A outer s H args us vs Q E hr he hb hv (h _ _ _ _ hs)⟩

section
variable {P : Program} {w : World} {K : PySem.W.Frag} {mg : Str → Option Value} {base : Heap} {k : Nat} {f : Addr} {name qual : Str} {params : Arguments} {body : List Stmt} {scope : Scope} {dV kV doc pm cdv ct oc : Value} {an od : Option Addr}
  {osl : Array (Option Value)} {N ps : List Str} {sp : Sp}
theorem fnG_of (lk : K.lookup f = some ⟨oc, od, .func (PySem.W.fnOf name qual params body scope dV kV doc pm an cdv ct), osl⟩) (hcd : PySem.W.codeIn K cdv qual = true) (S : FnScope N ps scope) (len : ∀ vs H Q E, sp vs H Q E → vs.length = ps.length)
    (hbody : ∀ (A : Around) (outer : List Env) (s : Shared) (H : Hp) (vs : List V) (Q : VK) (E : XK), RG k (A.deeper (envOfC qual scope s.heap.objs.size f cdv)) → sp vs H Q E →
      ∃ t, PSs (cxOf (L2.CX P w) P w K mg base N qual scope f cdv A outer s H E) body t ∧ t { nx := fun _ H' => Q .non H', rt := Q } (L2.start N vs) H) :
    FnG P w K mg base (k + 1) f (PySem.W.fnOf name qual params body scope dV kV doc pm an cdv ct) ps sp := by
  constructor
  · exact len
  intro A outer s H args us vs Q E hr e0 hb rv hsp
  have stay : ∀ b o, base.get? b = some o → s.heap.get? b = some o := fun b o e => (e0.bs b o e).1
  have KX : K.In s.heap := e0.mod.kin.keeps stay
  have nolim : s.heap.NoLimit := e0.mod.nolimit.keeps stay
  have kinds : ∀ y ∈ ps.zip us, scope.names.lookup y.1 = some .local ∨ (scope.names.lookup y.1 = some .cell ∧ ((cellsFrom (s.heap.objs.size + 1) scope.names []).lookup y.1).isSome = true) := by
    rintro ⟨n, v⟩ hy
    cases S.par n (List.of_mem_zip hy).1 with
    | inl q => exact Or.inl q
    | inr q => exact Or.inr ⟨q, PySem.W.cellsFrom_some _ _ _ (Or.inl q)⟩
  refine codeAny_call_function hr.rm.depth (KX _ _ lk) rfl S.co S.gen rfl (PySem.W.codeRec_of KX hcd) (hb _ _ _ _ (wpAny_newFunctionEnv_cells S.kind kinds fun env he s1 x => ?_))
  subst he
  refine ⟨nolim.keeps x.toInCall.keep, codeAny_func ?_⟩
  obtain ⟨t, ht, hq⟩ := hbody A outer s H vs Q E (hr.deeper _) hsp
  have J0 := inv_start (CX := L2.CX P w) (K := K) (mg := mg) (base := base) (E := E) S hr.rm.hd e0 (len _ _ _ _ hsp) rv x
  refine wpAny_mono (ht.run [] s1 (L2.start N vs) H { nx := fun _ H' => Q .non H', rt := Q } J0 hq) (fun fl s' hs => ?_) fun _ _ z => z
  cases fl with
  | next => obtain ⟨_, H', J, q⟩ := hs; exact ⟨V.non, H', J.os, J.bare, J.base, J.hok, rfl, q⟩
  | ret u => obtain ⟨v, _, H', J, r, q⟩ := hs; exact ⟨v, H', J.os, J.bare, J.base, J.hok, r, q⟩
  | brk => obtain ⟨_, _, _, q⟩ := hs; exact q.elim
  | cont => obtain ⟨_, _, _, q⟩ := hs; exact q.elim
end

/-! ## what a def promises, by data -/
def PostF (C : Cn) (E : XK) (W : Wd) (Q : VK) : Out D → Prop
  | .ok d st' => ∀ W' v, W'.st = st' → WOk C W' → Ext W W' → Rep C W' d v → Q v W'.H
  | .err e st' => ∀ W' cls dd, W'.st = st' → WOk C W' → Ext W W' → ExR C W' e cls dd → E cls dd W'.H
  | .bad => False
abbrev FM := List D → Sto → Out D
def spD (C : Cn) (n : Nat) (F : FM) : Sp := fun vs H Q E => ∃ W ds, W.H = H ∧ WOk C W ∧ RepL C W ds vs ∧ ds.length = n ∧ PostF C E W Q (F ds W.st)
/-- a def's meaning by that of its body -/
def fnM (N : Nat) (body : SM) : FM := fun ds st => match body (ds.map some ++ List.replicate (N - ds.length) none) st with
  | .nx _ st' => .ok .non st' | .rt d st' => .ok d st' | .err e _ st' => .err e st' | _ => .bad
theorem start_env {C : Cn} {W : Wd} {N : List Str} {ds : List D} {vs : List V} (r : RepL C W ds vs) : EnvR C W (L2.start N vs) (ds.map some ++ List.replicate (N.length - ds.length) none) := by
  have hl := r.length
  refine ⟨by unfold L2.start; rw [List.length_append, List.length_append, List.length_map, List.length_map, List.length_replicate, List.length_replicate, hl], fun i d h => ?_⟩
  by_cases hi : i < ds.length
  · rw [List.getElem?_append_left (by rw [List.length_map]; exact hi), List.getElem?_map] at h
    cases e : ds[i]? with
    | none => rw [e] at h; cases h
    | some d' =>
      rw [e] at h
      cases h
      obtain ⟨v, hv, rv⟩ := r.get e
      refine ⟨v, ?_, rv⟩
      unfold L2.start
      rw [List.getElem?_append_left (by rw [List.length_map, ← hl]; exact hi), List.getElem?_map, hv]; rfl
  · rw [List.getElem?_append_right (by rw [List.length_map]; omega), List.getElem?_replicate] at h
    split at h <;> cases h
/-- what a body's context gives -/
structure Bd (X : Cx) (Wx : WX) (k : Nat) : Prop where
  calm : X.calm = true
  nd : X.N.Nodup
  tk : Takes X Wx
  rg : RG k X.A
section
variable {P : Program} {w : World} {K : PySem.W.Frag} {mg : Str → Option Value} {base : Heap}
abbrev WxE (E : XK) : WX := fun cls d _ H => E cls d H
abbrev bodyCx (P : Program) (w : World) (K : PySem.W.Frag) (mg : Str → Option Value) (base : Heap) (N : List Str) (qual : Str) (st : Stmt) (f : Addr) (cdv : Value) (A : Around) (outer : List Env) (s : Shared) (H : Hp) (E : XK) : Cx :=
  cxOf (L2.CX P w) P w K mg base N qual (defScope st) f cdv A outer s H E
theorem fnD {x qual : Str} {st : Stmt} {f : Addr} {fd : FuncData} {N ps : List Str} {k : Nat} {m : SM} (F : Fun K x qual st f fd) (S : FnScope N ps (defScope st))
    (hb : ∀ (cdv : Value) (A : Around) (outer : List Env) (s : Shared) (H : Hp) (E : XK), Bd (bodyCx P w K mg base N qual st f cdv A outer s H E) (WxE E) k → PassesOwn (model P w) (bodyCx P w K mg base N qual st f cdv A outer s H E).A (bodyCx P w K mg base N qual st f cdv A outer s H E).env (bodyCx P w K mg base N qual st f cdv A outer s H E).xe →
      PDSs (bodyCx P w K mg base N qual st f cdv A outer s H E) (WxE E) (defBody st) m) :
    FnG P w K mg base (k + 1) f fd ps (spD ⟨K, mg⟩ ps.length (fnM N.length m)) := by
  obtain ⟨oc, od, kV, doc, pm, an, cdv, ct, osl, rfl, lk, hcd⟩ := F.ex
  refine fnG_of lk hcd S (fun vs H Q E h => ?_) fun A outer s H vs Q E hr h => ?_
  · obtain ⟨W, ds, _, _, r, hl, _⟩ := h
    rw [← r.length, hl]
  obtain ⟨W, ds, rfl, ok, r, hl, q⟩ := h
  refine ⟨_, (hb cdv A outer s W.H E ⟨rfl, S.nd, takes_of rfl rfl rfl rfl, hr⟩ (passes_of rfl)).ps, W, _, rfl, ok, start_env r, ?_⟩
  unfold fnM at q
  cases hm : m (ds.map some ++ List.replicate (N.length - ds.length) none) W.st with
  | nx en st' => rw [hm] at q; exact fun W' σ' h1 h2 h3 _ => q W' _ h1 h2 h3 .non
  | rt d st' => rw [hm] at q; exact q
  | err e en st' => rw [hm] at q; exact fun W' σ' cls dd h1 h2 h3 _ h5 => q W' cls dd h1 h2 h3 h5
  | bk en st' => rw [hm] at q; exact q.elim
  | ct en st' => rw [hm] at q; exact q.elim
  | bad => rw [hm] at q; exact q.elim
end
theorem Bd.blk {X : Cx} {Wx : WX} {k : Nat} (b : Bd X Wx k) (scope : Scope) (s : Shared) (H : Hp) (C : Addr) (cl : List (Str × Addr)) (fp : List Addr) : Bd (blkOf X scope s H C cl fp) WF k := ⟨b.calm, b.nd, takes0, b.rg⟩

section
variable {X : Cx} {Wx : WX} {k : Nat} {f : Addr} {fd : FuncData} {ps : List Str} {x : Str} {p pos : Pos} {e : Expr} {es : List Expr} {lm : LM} {G : FM} {n : Nat}
theorem run_fnG {sp : Sp} {E : XK} {pins : List (Addr × Obj)} {σ : St} {H : Hp} {s : Shared} {Q : VK} {us : List Value} {vs : List V} (F : FnG X.prog X.w X.K X.mg X.base k f fd ps sp) (hr : RG k X.A) (hb : Binds X.K fd ps []) (hx : PassesAt (L2.CX X.prog X.w) X σ E)
    (I : Inv X pins σ H s) (r : Vals vs us) (h : sp vs H Q E) : wpAny (model X.prog X.w) X.A (call (.ref f) us) (EP X pins σ Q) X.xe s := by
  have hlen : us.length = ps.length := r.length.symm.trans (F.len _ _ _ _ h)
  have bt := hb s us I.kIn (by simpa using hlen)
  rw [List.append_nil] at bt
  refine wpAny_call (codeAny_mono (F.run X.A X.stack s H ⟨us, []⟩ us vs Q E hr I.env0 bt r h) ?_)
  rintro (e | fl) s' hq
  · exact hx pins H s e s' I hq
  · cases fl with
    | ret u => exact I.after hq
    | next => exact hq.elim
    | brk => exact hq.elim
    | cont => exact hq.elim
def mCall (G : FM) (n : Nat) (lm : LM) : EM := fun en st => mb (lm en st) fun ds st => if ds.length = n then G ds st else .bad
theorem pd_call (F : FnG X.prog X.w X.K X.mg X.base k f fd ps (spD (cn X) n G)) (hm : X.mg x = some (.ref f)) (hk : PySem.W.keepIn X.K (.ref f) = true) (hb : Binds X.K fd ps []) (b : Bd X Wx k) (ha : PDA X Wx (e :: es) lm)
    (hg : Gl X x := by rfl) (hdb : (x == ("__debug__" : Str)) = false := by decide) (he : starEach (e :: es) X.env = (false, eval e X.env) :: starEach es X.env := by rfl) (hpl : (backTo pos (starEach es X.env)).any (·.1) = false := by rfl) :
    PD X Wx (.Call (.Name x p) (e :: es) [] pos) (mCall G n lm) := by
  refine ⟨⟨fun pins s σ H Q I h => ?_⟩⟩
  refine wpAny_Call_Name_kw (ld_glob I hg hm (PySem.W.callWith_K (h₀ := X.base) I.ok.mod.kin hk ?_ he hpl) hdb)
  have rd : tDL (cn X) Wx lm σ H fun vs H1 => spD (cn X) n G vs H1 Q (WE Wx σ) := by
    obtain ⟨W, en, eH, ok, er, q⟩ := h
    subst eH
    refine seqLE ok er q fun ds W1 vs ok1 e1 er1 r1 q1 => ?_
    by_cases hl : ds.length = n
    · rw [if_pos hl] at q1
      refine ⟨W1, ds, rfl, ok1, r1, hl, ?_⟩
      cases hG : G ds W1.st with
      | ok d st => rw [hG] at q1; exact q1
      | err x st => rw [hG] at q1; exact q1
      | bad => rw [hG] at q1; exact q1.elim
    · rw [if_neg hl] at q1; exact q1.elim
  exact thn (ha.pa.run pos pins s σ H _ I rd) fun us s1 ⟨vs, H1, I1, r, q⟩ => ⟨I1.kIn, run_fnG F b.rg hb (passAt b.tk σ) I1 r q⟩
end

/-! ## the law's end -/
theorem lawG {P : Program} {w : World} {K : PySem.W.Frag} {mg mb : Str → Option Value} {k : Nat} {fa a : Addr} {fd : FuncData} {x : Str} {sp : Sp} {s₁ : Shared} {vs : List Value} {ns : List Int}
    (KX : K.In s₁.heap) (hns : s₁.heap.Ns mainGlobals mg) (hb : s₁.heap.Ns builtinsNs mb) (hbb : ∀ x : Str, x ≠ "__name__" → mb x = bootBuiltins x) (hlim : s₁.heap.NoLimit) (hg : s₁.gens = #[])
    (ha : s₁.heap.get? a = some { cls := .type "list", data := .seq vs.toArray }) (hi : IntsAre vs ns) (hl : ns.length ≤ sizeLine) (hr : RG k callerA)
    (F : ∀ base : Heap, K.In base → base.Ns mainGlobals mg → FnG P w K mg base k fa fd [x] sp) (hbind : ∀ (s : Shared) (u : Value), BindsTo s fd ⟨[u], []⟩ [(x, u)])
    (hsp : ∀ H : Hp, Only H → SqL K H a (ns.map V.int) → sp [.ref a] H (fun v _ => v = .bl true) fun _ _ _ => False) :
    codeAny (model P w) callerA (.call (.ref fa) ⟨[.ref a], []⟩) (fun r s' => r = .ok (.ret (.bool true)) ∧ OldK s₁.heap s'.heap ∧ s'.os = s₁.os ∧ AllBare s'.gens) s₁ := by
  have lv : vs.length = ns.length := hi.length
  have vv : Vals (ns.map V.int) vs := vals_ints hi
  -- which abstract heap: the script frozen, or nothing where it is the module's own
  have main : ∀ H : Hp, Only H → SqL K H a (ns.map V.int) → HOk P w H s₁.heap → (∀ b u, H b = some u → b = a ∧ K.lookup a = none) →
      codeAny (model P w) callerA (.call (.ref fa) ⟨[.ref a], []⟩) (fun r s' => r = .ok (.ret (.bool true)) ∧ OldK s₁.heap s'.heap ∧ s'.os = s₁.os ∧ AllBare s'.gens) s₁ := fun H hO hS hok hA => by
    have untr : ∀ {b : Addr} {o : Obj}, s₁.heap.get? b = some o → (∀ its n, o.data ≠ .seq its n) → H b = none := fun {b o} e d => by
      cases q : H b with
      | none => rfl
      | some u =>
        obtain ⟨rfl, _⟩ := hA b u q
        rw [ha] at e; cases e
        exact absurd rfl (d _ _)
    have names : ∀ {b : Addr} {m : Str → Option Value}, s₁.heap.Ns b m → (hidT s₁.heap H).Ns b m := by
      rintro b m ⟨o, es, ep, e, d, r⟩
      refine ⟨o, es, ep, hidT_get e (untr e fun its n z => ?_), d, r⟩
      rw [d] at z; cases z
    have frag : K.In (hidT s₁.heap H) := by
      intro b o e
      refine hidT_get (KX b o e) ?_
      cases q : H b with
      | none => rfl
      | some u =>
        obtain ⟨rfl, z⟩ := hA b u q
        rw [z] at e; cases e
    obtain ⟨mc, hc1, hc2⟩ := hlim
    have e0 : Env0 P w K mg (hidT s₁.heap H) callerA [] s₁ H := {
      frames := rfl
      mod := ⟨frag, names hns, ⟨mb, names hb, hbb⟩, ⟨mc, names hc1, hc2⟩⟩
      bs := fun b o e => of_hidT e
      bsz := Nat.le_of_eq (hidT_size _ _)
      funs := trivial
      frf := fun b z => by cases z
      hok := hok
      bare := .of_eq hg }
    refine codeAny_mono ((F _ frag (names hns)).run callerA [] s₁ H ⟨[.ref a], []⟩ [.ref a] [.ref a] (fun v _ => v = .bl true) (fun _ _ _ => False) hr e0 (hbind s₁ (.ref a)) (.cons rfl .nil) (hsp H hO hS)) ?_
    rintro (e | fl) s' h
    · obtain ⟨_, _, _, _, _, _, _, _, _, _, _, _, z⟩ := h
      exact z.elim
    · cases fl with
      | next => exact h.elim
      | brk => exact h.elim
      | cont => exact h.elim
      | ret u =>
        obtain ⟨v, H', os, bare, un, hok', ru, rfl⟩ := h
        obtain rfl : u = Value.bool true := ru
        refine ⟨rfl, OldK.of_keep fun b o e => ?_, os, bare⟩
        cases q : H b with
        | none => exact un.keep b o e q (by intro z; cases z) (by intro z; cases z)
        | some u =>
          obtain ⟨ob, xs, z⟩ : ∃ ob xs, H b = some (.frz ob (.lst xs)) := by
            rcases hO b with z | z
            · rw [q] at z; cases z
            · exact z
          have a1 := (hok b _ z).1
          have a2 := (hok' b _ (un.frzs b ob _ z)).1
          rw [e] at a1; cases a1
          exact a2
  cases hk : K.lookup a with
  | none =>
    have at_a : ∀ {b : Addr} {u : HO}, upd (fun _ => none) a (.frz { cls := .type "list", data := .seq vs.toArray } (.lst (ns.map V.int))) b = some u → b = a ∧ u = .frz { cls := .type "list", data := .seq vs.toArray } (.lst (ns.map V.int)) := fun {b u} q => by
      by_cases e : b = a
      · subst e
        rw [upd_same] at q
        exact ⟨rfl, (Option.some.inj q).symm⟩
      · rw [upd_ne e] at q; cases q
    refine main (upd (fun _ => none) a (.frz { cls := .type "list", data := .seq vs.toArray } (.lst (ns.map V.int)))) (fun b => ?_) (.inl (.inr ⟨_, upd_same⟩)) (fun b u q => ?_) fun b u q => ⟨(at_a q).1, hk⟩
    · by_cases e : b = a
      · subst e; exact .inr ⟨_, _, upd_same⟩
      · exact .inl (by rw [upd_ne e])
    · obtain ⟨rfl, rfl⟩ := at_a q
      exact ⟨ha, by rw [List.length_map]; exact hl, vs, _, vv, ha⟩
  | some o =>
    have e := KX a o hk
    rw [ha] at e
    cases e
    exact main (fun _ => none) (fun _ => .inl rfl) (.inr ⟨_, vs.toArray, _, hk, rfl, rfl, rfl, by rw [List.size_toArray, lv]; exact hl, by simpa using vv⟩) (fun b u z => by cases z) fun b u z => by cases z
theorem walkG {l : PySem.W.OpenLaw} {n k : Nat} {q : Program} {loose : List Str} {XP : (Str → Option Value) → Heap → Prop} {YP : World → Heap → Prop} {d : DefRec} {K : Params → PySem.W.Frag} {sp : World → (Str → Option Value) → Sp} {x : Str}
    (hn : l.most = some n) (hn2 : n ≤ sizeLine) (hdf : d.params.defaults = []) (hr : RG k callerA) (hY : ∀ (w : World) (h : Heap), YP w h → (K w.params).In h)
    (F : ∀ (w : World) (mg : Str → Option Value) (fa : Addr) (h : Heap), (K w.params).In h → h.Ns mainGlobals mg → mg d.name = some (.ref fa) →
      ∃ fd : FuncData, (∀ (s : Shared) (u : Value), BindsTo s fd ⟨[u], []⟩ [(x, u)]) ∧ ∀ base : Heap, (K w.params).In base → base.Ns mainGlobals mg → FnG l.prog w (K w.params) mg base k fa fd [x] (sp w mg))
    (hsp : ∀ (w : World) (mg : Str → Option Value) (H : Hp) (a : Addr) (ns : List Int), ns.length ≤ n → Only H → SqL (K w.params) H a (ns.map V.int) → sp w mg [.ref a] H (fun v _ => v = .bl true) fun _ _ _ => False) :
    PySem.W.WalkO q loose XP YP l.row.toRowW d [] (fun f vs => PySem.call f vs) := by
  refine Att.attach_call hn hdf ?_
  intro w s₀ s₁ mg mb fa o pm cd doc a vs ns G Y ho hd hcd hmg hobj hints hlen hg
  obtain ⟨fd, hb, hF⟩ := F w mg fa _ (hY w _ Y) G.T.g hmg
  exact lawG (hY w _ Y) G.T.g G.T.b G.T.builtins G.T.nolimit hg hobj hints (Nat.le_trans hlen hn2) hr hF hb fun H hO hS => hsp w mg H a ns hlen hO hS
end Pd

namespace Pd
open PySem PySem.Spec L2
open PyProof.Rows hiding St
variable [Codes]

/-! ## data as the library's data -/
def keyPy : Key → PyData
  | .inl i => .int i
  | .inr x => .str x
mutual
def py : D → PyData
  | .non => .none | .bl b => .bool b | .int i => .int i | .str x => .str x
  | .tup ds => .tuple (pyL ds) | .lst ds => .list (pyL ds) | .dct ks ds => .dict ((ks.map keyPy).zip (pyL ds))
  | .cell _ => .none | .glob _ => .none | .scr _ => .none | .exc _ _ _ => .none
def pyL : List D → List PyData
  | [] => []
  | d :: ds => py d :: pyL ds
end
mutual
/-- without cells and names -/
def pur : D → Bool
  | .non | .bl _ | .int _ | .str _ => true
  | .tup ds | .lst ds | .dct _ ds => purL ds
  | .cell _ | .glob _ | .scr _ | .exc _ _ _ => false
def purL : List D → Bool
  | [] => true
  | d :: ds => pur d && purL ds
end
mutual
/-- nor dicts -/
def pln : D → Bool
  | .non | .bl _ | .int _ | .str _ => true
  | .tup ds | .lst ds => plnL ds
  | .dct _ _ | .cell _ | .glob _ | .scr _ | .exc _ _ _ => false
def plnL : List D → Bool
  | [] => true
  | d :: ds => pln d && plnL ds
end
mutual
theorem pur_of_pln : ∀ d : D, pln d = true → pur d = true
  | .non, _ => rfl
  | .bl _, _ => rfl
  | .int _, _ => rfl
  | .str _, _ => rfl
  | .tup ds, h => by unfold pur; exact purL_of_plnL ds (by unfold pln at h; exact h)
  | .lst ds, h => by unfold pur; exact purL_of_plnL ds (by unfold pln at h; exact h)
  | .dct _ _, h => by unfold pln at h; cases h
  | .cell _, h => by unfold pln at h; cases h
  | .glob _, h => by unfold pln at h; cases h
  | .scr _, h => by unfold pln at h; cases h
  | .exc _ _ _, h => by unfold pln at h; cases h
theorem purL_of_plnL : ∀ ds : List D, plnL ds = true → purL ds = true
  | [], _ => rfl
  | d :: ds, h => by
    unfold plnL at h
    unfold purL
    rw [Bool.and_eq_true] at h ⊢
    exact ⟨pur_of_pln d h.1, purL_of_plnL ds h.2⟩
end
mutual
theorem py_plain : ∀ d : D, pln d = true → (py d).plain = true
  | .non, _ => rfl
  | .bl _, _ => rfl
  | .int _, _ => rfl
  | .str _, _ => rfl
  | .tup ds, h => by unfold py PyData.plain; exact pyL_plain ds (by unfold pln at h; exact h)
  | .lst ds, h => by unfold py PyData.plain; exact pyL_plain ds (by unfold pln at h; exact h)
  | .dct _ _, h => by unfold pln at h; cases h
  | .cell _, h => by unfold pln at h; cases h
  | .glob _, h => by unfold pln at h; cases h
  | .scr _, h => by unfold pln at h; cases h
  | .exc _ _ _, h => by unfold pln at h; cases h
theorem pyL_plain : ∀ ds : List D, plnL ds = true → PyData.plainAll (pyL ds) = true
  | [], _ => rfl
  | d :: ds, h => by
    unfold plnL at h
    unfold pyL PyData.plainAll
    rw [Bool.and_eq_true] at h ⊢
    exact ⟨py_plain d h.1, pyL_plain ds h.2⟩
end
theorem pyL_map (ds : List D) : pyL ds = ds.map py := by
  induction ds with
  | nil => rfl
  | cons d ds ih => unfold pyL; rw [ih]; rfl
theorem pyL_length (ds : List D) : (pyL ds).length = ds.length := by rw [pyL_map, List.length_map]

section
variable {X : Cx} {pins : List (Addr × Obj)} {σ : St} {W : Wd} {s : Shared}
theorem zip_fst {α β : Type} : ∀ {as : List α} {bs : List β}, as.length = bs.length → (as.zip bs).map (·.1) = as
  | [], _, _ => by simp
  | a :: as, [], h => by simp at h
  | a :: as, b :: bs, h => by
    show a :: (as.zip bs).map (·.1) = a :: as
    rw [zip_fst (by simpa using h)]
theorem zip_snd {α β : Type} : ∀ {as : List α} {bs : List β}, as.length = bs.length → (as.zip bs).map (·.2) = bs
  | [], [], _ => rfl
  | [], b :: bs, h => by simp at h
  | a :: as, [], h => by simp at h
  | a :: as, b :: bs, h => by
    show b :: (as.zip bs).map (·.2) = b :: bs
    rw [zip_snd (by simpa using h)]
theorem key_reads {h : Heap} : ∀ {ks : List Key} {es : List DictEntry} {vs : List (Key × Value)}, Pairs (mixKind X.prog X.w) es vs → vs.map (·.1) = ks → ∃ as, ReadsAll h (es.map (·.key)) (ks.map keyPy) as
  | [], _, _, p, e => by
    cases p with
    | nil => exact ⟨_, .nil⟩
    | cons a b c => cases e
  | k :: ks, _, _, p, e => by
    cases p with
    | nil => cases e
    | cons a b c =>
      simp only [List.map_cons, List.cons.injEq] at e
      obtain ⟨e1, e2⟩ := e
      obtain ⟨as, h2⟩ := key_reads c e2
      rename_i ent kv es kvs
      have a' : keyIs kv.1 ent.key = true := a
      rw [e1] at a'
      rcases keyIs_shape a' with ⟨i, t, hk, hv⟩ | ⟨x, t, hk, hv⟩
      · subst hk
        have q : Reads h ent.key (keyPy (.inl i)) [] := by rw [hv]; exact .int _ _
        exact ⟨_, .cons q h2⟩
      · subst hk
        have q : Reads h ent.key (keyPy (.inr x)) [] := by rw [hv]; exact .str _ _
        exact ⟨_, .cons q h2⟩
theorem pair_vals : ∀ {ks : List Key} {xs : List V} {es : List DictEntry} {vs : List (Key × Value)}, Pairs (mixKind X.prog X.w) es vs → KV (ks.zip xs) vs → ks.length = xs.length → Vals xs (es.map (·.val)) ∧ vs.map (·.1) = ks
  | [], [], _, _, p, q, _ => by
    cases q
    cases p
    exact ⟨.nil, rfl⟩
  | [], x :: xs, _, _, _, _, h => by simp at h
  | k :: ks, [], _, _, _, _, h => by simp at h
  | k :: ks, x :: xs, _, _, p, q, h => by
    cases q with
    | cons a b =>
      cases p with
      | cons c d e =>
        obtain ⟨h1, h2⟩ := pair_vals e b (by simpa using h)
        obtain ⟨a1, a2⟩ := a
        have a3 := a2
        rw [← d] at a3
        refine ⟨.cons a3 h1, ?_⟩
        rw [List.map_cons, h2]
        exact congrArg (· :: ks) a1.symm
/-- the dict's object -/
theorem dct_obj {a : Addr} {ks : List Key} {xs : List V} (I : Inv X pins σ W.H s) (h : W.H a = some (.dK (ks.zip xs))) (hl : ks.length = xs.length) :
    (a == sysModules) = false ∧ ∃ o es ep as, s.heap.get? a = some o ∧ o.ExactDict ∧ o.data = .dict es ep ∧ Vals xs (es.toList.map (·.val)) ∧ ReadsAll s.heap (es.toList.map (·.key)) (ks.map keyPy) as := by
  have x : ObjOk X.prog X.w W.H s.heap a (.dK (ks.zip xs)) := I.hok a _ h
  obtain ⟨_, hy, vs, kv, o, es, ep, ho, hx, hd, _, hp, _⟩ := x
  obtain ⟨h1, h2⟩ := pair_vals hp kv hl
  obtain ⟨as, h3⟩ := key_reads (h := s.heap) hp h2
  exact ⟨hy, o, es, ep, as, ho, hx, hd, h1, h3⟩
mutual
theorem Rep.reads (I : Inv X pins σ W.H s) : ∀ {d : D} {v : V} {u : Value}, Rep (cn X) W d v → pur d = true → RelV v u → ∃ as, Reads s.heap u (py d) as
  | .non, _, _, h, _, r => by rw [h.non_inv] at r; cases r; exact ⟨_, .none⟩
  | .bl b, _, _, h, _, r => by rw [h.bl_inv] at r; cases r; exact ⟨_, .bool b⟩
  | .int i, _, _, h, _, r => by rw [h.int_inv] at r; obtain ⟨t, rfl⟩ := r; exact ⟨_, .int i t⟩
  | .str x, _, _, h, _, r => by rw [h.str_inv] at r; obtain ⟨t, rfl⟩ := r; exact ⟨_, .str x t⟩
  | .tup ds, _, _, h, p, r => by
    obtain ⟨a, xs, rfl, ht, hr⟩ := h.tup_inv
    cases r
    obtain ⟨its, rv, ⟨o, ho, hc, n, hd⟩, _⟩ := I.tuple ht.sq
    obtain ⟨as, q⟩ := RepL.reads I hr (by unfold pur at p; exact p) rv
    exact ⟨_, .tuple ho hc hd q⟩
  | .lst ds, _, _, h, p, r => by
    obtain ⟨a, xs, rfl, ht, hr⟩ := h.lst_inv
    cases r
    obtain ⟨its, rv, ⟨o, n, ho, hc, _, hd⟩, _⟩ := I.list ht.sq
    obtain ⟨as, q⟩ := RepL.reads I hr (by unfold pur at p; exact p) rv
    exact ⟨_, .list ho hc hd q⟩
  | .dct ks ds, _, _, h, p, r => by
    unfold Rep at h
    obtain ⟨a, xs, rfl, hH, _, hl, hr⟩ := h
    cases r
    obtain ⟨_, o, es, ep, as, ho, hx, hd, hv, hk⟩ := dct_obj I hH hl
    obtain ⟨bs, q⟩ := RepL.reads I hr (by unfold pur at p; exact p) hv
    have l2 : (ks.map keyPy).length = (pyL ds).length := by rw [List.length_map, pyL_length, hl, hr.length]
    exact ⟨_, .dict (kvs := (ks.map keyPy).zip (pyL ds)) ho hx.1 hd (by rw [zip_fst l2]; exact hk) (by rw [zip_snd l2]; exact q)⟩
  | .cell _, _, _, _, p, _ => by unfold pur at p; cases p
  | .glob _, _, _, _, p, _ => by unfold pur at p; cases p
  | .scr _, _, _, _, p, _ => by unfold pur at p; cases p
  | .exc _ _ _, _, _, _, p, _ => by unfold pur at p; cases p
theorem RepL.reads (I : Inv X pins σ W.H s) : ∀ {ds : List D} {vs : List V} {us : List Value}, RepL (cn X) W ds vs → purL ds = true → Vals vs us → ∃ as, ReadsAll s.heap us (pyL ds) as
  | [], _, _, h, _, r => by rw [h.nil_inv] at r; cases r; exact ⟨_, .nil⟩
  | d :: ds, _, _, h, p, r => by
    obtain ⟨v, r', rfl, h1, h2⟩ := h.cons_inv
    unfold purL at p
    rw [Bool.and_eq_true] at p
    cases r with
    | cons q1 q2 =>
      obtain ⟨as, z1⟩ := Rep.reads I h1 p.1 q1
      obtain ⟨bs, z2⟩ := RepL.reads I h2 p.2 q2
      exact ⟨_, .cons z1 z2⟩
end

/-! ## repr -/
theorem atMost_both {h : Heap} {n m k : Nat} {bs cs : List Addr} (a : ReadAtMost h n bs) (b : ReadAtMost h m cs) (h1 : n ≤ k) (h2 : m ≤ k) : ReadAtMost h k (bs ++ cs) := (a.mono h1).append (b.mono h2)
mutual
theorem Rep.shows (I : Inv X pins σ W.H s) : ∀ {d : D} {v : V} {u : Value}, Rep (cn X) W d v → pur d = true → RelV v u → (py d).showable = true → (py d).shown.length ≤ sizeLine →
    ∃ bs, ReadAtMost s.heap (py d).depth bs ∧ ReprK X.prog X.w bs s.heap (py d).depth u (py d).shown
  | .non, _, _, h, _, r, _, _ => by
    rw [h.non_inv] at r; cases r
    refine ⟨[], (by intro _ z; cases z), ?_⟩
    simp only [py, PyData.shown]
    exact .of_is ReprIs.none _ _ _
  | .bl b, _, _, h, _, r, _, _ => by
    rw [h.bl_inv] at r; cases r
    refine ⟨[], (by intro _ z; cases z), ?_⟩
    simp only [py, PyData.shown]
    exact .of_is (ReprIs.bool b) _ _ _
  | .int i, _, _, h, _, r, hs, _ => by
    rw [h.int_inv] at r; obtain ⟨t, rfl⟩ := r
    refine ⟨[], (by intro _ z; cases z), ?_⟩
    simp only [py, PyData.showable, decide_eq_true_eq] at hs
    simp only [py, PyData.shown]
    exact .of_is (ReprIs.int t hs) _ _ _
  | .str x, _, _, h, _, r, _, hz => by
    rw [h.str_inv] at r; obtain ⟨t, rfl⟩ := r
    refine ⟨[], (by intro _ z; cases z), ?_⟩
    simp only [py, PyData.shown] at hz ⊢
    exact .of_is (ReprIs.str x t hz) _ _ _
  | .tup ds, _, _, h, p, r, hs, hz => by
    obtain ⟨as0, rd⟩ := Rep.reads I h p r
    obtain ⟨a, xs, rfl, ht, hr⟩ := h.tup_inv
    cases r
    obtain ⟨its, rv, ⟨o, ho, hc, n, hd⟩, _⟩ := I.tuple ht.sq
    simp only [py, PyData.shown] at hz
    simp only [py, PyData.showable] at hs
    obtain ⟨bs, hb, hk⟩ := RepL.shows I hr (by unfold pur at p; exact p) rv hs fun t z => Nat.le_trans (tupleText_mem_le z) hz
    have out : a ∉ bs := not_mem_of_deeper rd (by simp only [py, PyData.depth]; omega) hb
    refine ⟨a :: bs, .cons rd (by simp only [py, PyData.depth]; omega) hb, ?_⟩
    simp only [py, PyData.depth, PyData.shown]
    exact .tuple ho hc hd out (by simpa using hk)
  | .lst ds, _, _, h, p, r, hs, hz => by
    obtain ⟨as0, rd⟩ := Rep.reads I h p r
    obtain ⟨a, xs, rfl, ht, hr⟩ := h.lst_inv
    cases r
    obtain ⟨its, rv, ⟨o, n, ho, hc, _, hd⟩, _⟩ := I.list ht.sq
    simp only [py, PyData.shown] at hz
    simp only [py, PyData.showable] at hs
    obtain ⟨bs, hb, hk⟩ := RepL.shows I hr (by unfold pur at p; exact p) rv hs fun t z => Nat.le_trans (listText_mem_le z) hz
    have out : a ∉ bs := not_mem_of_deeper rd (by simp only [py, PyData.depth]; omega) hb
    refine ⟨a :: bs, .cons rd (by simp only [py, PyData.depth]; omega) hb, ?_⟩
    simp only [py, PyData.depth, PyData.shown]
    cases its with
    | nil =>
      cases rv
      obtain rfl : ds = [] := List.eq_nil_of_length_eq_zero hr.length
      simp only [pyL, PyData.shownAll, listText_nil, PyData.depthAll]
      exact .listEmpty ho hc hd
    | cons x l =>
      refine .list ho hc hd out ?_ fun i y e => hk.item i y (by simpa using e)
      simpa using hk.length_eq
  | .dct ks ds, _, _, h, p, r, hs, hz => by
    obtain ⟨as0, rd⟩ := Rep.reads I h p r
    unfold Rep at h
    obtain ⟨a, xs, rfl, hH, _, hl, hr⟩ := h
    cases r
    obtain ⟨hsys, o, es, ep, ks', ho, hx, hd, hv, hk⟩ := dct_obj I hH hl
    have l2 : (ks.map keyPy).length = (pyL ds).length := by rw [List.length_map, pyL_length, hl, hr.length]
    simp only [py, PyData.shown] at hz
    simp only [py, PyData.showable] at hs
    obtain ⟨s1, s2⟩ := PyData.showableKv_split _ hs
    rw [zip_fst l2] at s1
    rw [zip_snd l2] at s2
    obtain ⟨b1, hb1, k1⟩ := keys_show (P := X.prog) (w := X.w) (ks := ks) hk s1 fun t z => by
      obtain ⟨q, hq, le⟩ := PyData.shownKv_key_le ((ks.map keyPy).zip (pyL ds)) t (by rw [zip_fst l2]; exact z)
      exact Nat.le_trans le (Nat.le_trans (dictText_mem_le hq) hz)
    obtain ⟨b2, hb2, k2⟩ := RepL.shows I hr (by unfold pur at p; exact p) hv s2 fun t z => by
      obtain ⟨q, hq, le⟩ := PyData.shownKv_val_le ((ks.map keyPy).zip (pyL ds)) t (by rw [zip_snd l2]; exact z)
      exact Nat.le_trans le (Nat.le_trans (dictText_mem_le hq) hz)
    have d1 := PyData.depthAll_keys_le ((ks.map keyPy).zip (pyL ds))
    have d2 := PyData.depthAll_vals_le ((ks.map keyPy).zip (pyL ds))
    rw [zip_fst l2] at d1
    rw [zip_snd l2] at d2
    have hb := atMost_both hb1 hb2 d1 d2
    have out : a ∉ b1 ++ b2 := not_mem_of_deeper rd (by simp only [py, PyData.depth]; omega) hb
    refine ⟨a :: (b1 ++ b2), .cons rd (by simp only [py, PyData.depth]; omega) hb, ?_⟩
    simp only [py, PyData.depth, PyData.shown, PyData.shownKv_eq]
    rw [zip_fst l2, zip_snd l2]
    exact .dict ho hx.1 hd hsys out (.of_two es.toList _ _ (k1.more_le (fun b z => List.mem_append_left _ z) d1) (k2.more_le (fun b z => List.mem_append_right _ z) d2))
  | .cell _, _, _, _, p, _, _, _ => by unfold pur at p; cases p
  | .glob _, _, _, _, p, _, _, _ => by unfold pur at p; cases p
  | .scr _, _, _, _, p, _, _, _ => by unfold pur at p; cases p
  | .exc _ _ _, _, _, _, p, _, _, _ => by unfold pur at p; cases p
theorem RepL.shows (I : Inv X pins σ W.H s) : ∀ {ds : List D} {vs : List V} {us : List Value}, RepL (cn X) W ds vs → purL ds = true → Vals vs us → PyData.showableAll (pyL ds) = true → (∀ t ∈ PyData.shownAll (pyL ds), t.length ≤ sizeLine) →
    ∃ bs, ReadAtMost s.heap (PyData.depthAll (pyL ds)) bs ∧ ReprAllK X.prog X.w bs s.heap (PyData.depthAll (pyL ds)) us (PyData.shownAll (pyL ds))
  | [], _, _, h, _, r, _, _ => by
    rw [h.nil_inv] at r; cases r
    exact ⟨[], (by intro _ z; cases z), .nil⟩
  | d :: ds, _, _, h, p, r, hs, hz => by
    obtain ⟨v, r', rfl, h1, h2⟩ := h.cons_inv
    unfold purL at p
    rw [Bool.and_eq_true] at p
    simp only [pyL, PyData.showableAll, Bool.and_eq_true] at hs
    simp only [pyL, PyData.shownAll, List.mem_cons, forall_eq_or_imp] at hz
    cases r with
    | cons q1 q2 =>
      obtain ⟨b1, m1, k1⟩ := Rep.shows I h1 p.1 q1 hs.1 hz.1
      obtain ⟨b2, m2, k2⟩ := RepL.shows I h2 p.2 q2 hs.2 hz.2
      simp only [pyL, PyData.depthAll, PyData.shownAll]
      refine ⟨b1 ++ b2, atMost_both m1 m2 (Nat.le_max_left _ _) (Nat.le_max_right _ _), ?_⟩
      exact .cons ((k1.more fun b z => List.mem_append_left _ z).level_le (Nat.le_max_left _ _)) (k2.more_le (fun b z => List.mem_append_right _ z) (Nat.le_max_right _ _))
theorem keys_show {P : Program} {w : World} {h : Heap} : ∀ {ks : List Key} {us : List Value} {as : List Addr}, ReadsAll h us (ks.map keyPy) as → PyData.showableAll (ks.map keyPy) = true → (∀ t ∈ PyData.shownAll (ks.map keyPy), t.length ≤ sizeLine) →
    ∃ bs, ReadAtMost h (PyData.depthAll (ks.map keyPy)) bs ∧ ReprAllK P w bs h (PyData.depthAll (ks.map keyPy)) us (PyData.shownAll (ks.map keyPy))
  | [], _, _, h, _, _ => by
    cases h
    exact ⟨[], (by intro _ z; cases z), .nil⟩
  | k :: ks, _, _, h, hs, hz => by
    simp only [List.map_cons, PyData.showableAll, Bool.and_eq_true] at hs
    simp only [List.map_cons, PyData.shownAll, List.mem_cons, forall_eq_or_imp] at hz
    cases h with
    | cons q1 q2 =>
      obtain ⟨b2, m2, k2⟩ := keys_show (P := P) (w := w) q2 hs.2 hz.2
      simp only [List.map_cons, PyData.depthAll, PyData.shownAll]
      refine ⟨b2, m2.mono (Nat.le_max_right _ _), .cons ?_ (k2.more_le (fun b z => z) (Nat.le_max_right _ _))⟩
      cases k with
      | inl i =>
        cases q1
        have q : i.natAbs.log2 < 1920 := by simpa [keyPy, PyData.showable] using hs.1
        simp only [keyPy, PyData.shown]
        exact .of_is (ReprIs.int _ q) _ _ _
      | inr x =>
        cases q1
        have q := hz.1
        simp only [keyPy, PyData.shown] at q ⊢
        exact .of_is (ReprIs.str x _ q) _ _ _
end
end
end Pd

namespace Pd
open PySem PySem.Spec L2
open PyProof.Rows hiding St
variable [Codes]

/-! ## equality -/
def deref (st : Sto) : D → D
  | .cell n => match st[n]? with | some (.lst ds) => .lst ds | _ => .cell n
  | d => d
theorem deref_cell (st : Sto) (n : Nat) : deref st (.cell n) = (match st[n]? with | some (.lst ds) => .lst ds | _ => .cell n) := rfl
def lowB (a b : D) : Bool := decide (min (py a).depth (py b).depth ≤ 150)
/-- == as data: by lengths where one side is empty -/
def emptyOne : D → D → Option Bool
  | .lst ds, .lst es => if ds.isEmpty || es.isEmpty then some (ds.length == es.length) else none
  | .tup ds, .tup es => if ds.isEmpty || es.isEmpty then some (ds.length == es.length) else none
  | _, _ => none
def eqB (a b : D) : Option Bool := match emptyOne a b with
  | some r => some r
  | none => if pln a && pln b && lowB a b then some (PyData.eqv (py a) (py b)) else none
theorem emptyOne_some {a b : D} {r : Bool} (h : emptyOne a b = some r) : ∃ ds es, ((a = .lst ds ∧ b = .lst es) ∨ (a = .tup ds ∧ b = .tup es)) ∧ (ds = [] ∨ es = []) ∧ r = (ds.length == es.length) := by
  unfold emptyOne at h
  split at h
  · rename_i ds es
    split at h
    · rename_i c
      cases h
      exact ⟨ds, es, .inl ⟨rfl, rfl⟩, by simpa using c, rfl⟩
    · cases h
  · rename_i ds es
    split at h
    · rename_i c
      cases h
      exact ⟨ds, es, .inr ⟨rfl, rfl⟩, by simpa using c, rfl⟩
    · cases h
  · cases h
def eqD (a b : D) (st : Sto) : Option D := (eqB (deref st a) (deref st b)).map .bl
def neD (a b : D) (st : Sto) : Option D := (eqB (deref st a) (deref st b)).map fun k => .bl (!k)
section
variable {X : Cx} {pins : List (Addr × Obj)} {σ : St} {W : Wd} {s : Shared} {k : Nat}
/-- the object of a list or a cell -/
theorem lst_obj (I : Inv X pins σ W.H s) (ok : WOk (cn X) W) {d : D} {v : V} {ds : List D} (r : Rep (cn X) W d v) (e : deref W.st d = .lst ds) : ∃ a xs, v = .ref a ∧ W.H a = some (.lst xs) ∧ RepL (cn X) W ds xs := by
  cases d with
  | lst es =>
    cases e
    obtain ⟨a, xs, h1, h2, h3⟩ := r.lst_inv
    exact ⟨a, xs, h1, h2.1, h3⟩
  | cell n =>
    rw [deref_cell] at e
    cases h : W.st[n]? with
    | none => rw [h] at e; cases e
    | some c =>
      rw [h] at e
      cases c with
      | lst es =>
        cases e
        obtain ⟨a, xs, h1, _, h2, h3⟩ := cell_lst ok r h
        exact ⟨a, xs, h1, h2, h3⟩
      | dct _ _ => cases e
      | _ => cases e
  | _ => cases e
theorem deref_id {st : Sto} {d e : D} (h : deref st d = e) (n : ∀ ds, e ≠ .lst ds) : e = d := by
  cases d with
  | cell n' =>
    rw [deref_cell] at h
    cases hs : st[n']? with
    | none => rw [hs] at h; exact h.symm
    | some c =>
      rw [hs] at h
      cases c with
      | lst ds => exact absurd h.symm (n ds)
      | dct _ _ => exact h.symm
      | _ => exact h.symm
  | _ => exact h.symm
theorem deref_reads (I : Inv X pins σ W.H s) (ok : WOk (cn X) W) {d : D} {v : V} {u : Value} (r : Rep (cn X) W d v) (p : pur (deref W.st d) = true) (rv : RelV v u) : ∃ as, Reads s.heap u (py (deref W.st d)) as := by
  cases e : deref W.st d with
  | lst ds =>
    obtain ⟨a, xs, rfl, h1, h2⟩ := lst_obj I ok r e
    cases rv
    obtain ⟨its, rv, ⟨o, n, ho, hc, _, hd⟩, _⟩ := I.list (SqL.of h1)
    rw [e] at p
    obtain ⟨as, q⟩ := RepL.reads I h2 (by unfold pur at p; exact p) rv
    exact ⟨_, .list ho hc hd q⟩
  | _ =>
    rw [e] at p
    have := deref_id e (by intro _ z; cases z)
    subst this
    exact Rep.reads I r p rv
theorem RG.low (r : RG k X.A) {n : Nat} (h : n ≤ 150) : X.A.units + n < cLine := by have := r.rm.un; omega
theorem low_of {a b : D} (h : lowB a b = true) : min (py a).depth (py b).depth ≤ 150 := of_decide_eq_true h
theorem eqB_gen {a b : D} {r : Bool} (h : (if pln a && pln b && lowB a b then some (PyData.eqv (py a) (py b)) else none) = some r) : pln a = true ∧ pln b = true ∧ lowB a b = true ∧ r = PyData.eqv (py a) (py b) := by
  by_cases c : (pln a && pln b && lowB a b) = true
  · rw [if_pos c] at h
    simp only [Bool.and_eq_true] at c
    exact ⟨c.1.1, c.1.2, c.2, (Option.some.inj h).symm⟩
  · rw [if_neg c] at h; cases h
/-- a comparison that data decide: both ways -/
theorem cmp_data (b : RG k X.A) {da db : D} {v u : V} {vv uv : Value} {r : Bool} (I : Inv X pins σ W.H s) (ok : WOk (cn X) W) (ra : Rep (cn X) W da v) (rb : Rep (cn X) W db u) (rx : RelV v vv) (ry : RelV u uv)
    (h : eqB (deref W.st da) (deref W.st db) = some r) : (∀ (Q : Value → Shared → Prop) (E : Value → Shared → Prop), Q (.bool r) s → wpAny (model X.prog X.w) X.A (compareOp .Eq vv uv) Q E s) ∧
      (∀ (Q : Value → Shared → Prop) (E : Value → Shared → Prop), Q (.bool (!r)) s → wpAny (model X.prog X.w) X.A (compareOp .NotEq vv uv) Q E s) := by
  unfold eqB at h
  cases he : emptyOne (deref W.st da) (deref W.st db) with
  | none =>
    rw [he] at h
    obtain ⟨p1, p2, lo, hr⟩ := eqB_gen h
    obtain ⟨as, r1⟩ := deref_reads I ok ra (pur_of_pln _ p1) rx
    obtain ⟨bs, r2⟩ := deref_reads I ok rb (pur_of_pln _ p2) ry
    exact ⟨fun Q E q => SeqAt.eq_plain r1 r2 (py_plain _ p1) (py_plain _ p2) (b.low (low_of lo)) (by rw [← hr]; exact q),
      fun Q E q => SeqAt.ne_plain r1 r2 (py_plain _ p1) (py_plain _ p2) (b.low (low_of lo)) (by rw [← hr]; exact q)⟩
  | some r' =>
    rw [he] at h
    cases h
    obtain ⟨ds, es, ht, hl, rfl⟩ := emptyOne_some he
    rcases ht with ⟨e1, e2⟩ | ⟨e1, e2⟩
    · obtain ⟨a1, xs1, rfl, h1, q1⟩ := lst_obj I ok ra e1
      obtain ⟨a2, xs2, rfl, h2, q2⟩ := lst_obj I ok rb e2
      cases rx; cases ry
      obtain ⟨i1, v1, p1, _⟩ := I.list (SqL.of h1)
      obtain ⟨i2, v2, p2, _⟩ := I.list (SqL.of h2)
      have l1 : i1.toArray.size = ds.length := by rw [List.size_toArray, ← v1.length, ← q1.length]
      have l2 : i2.toArray.size = es.length := by rw [List.size_toArray, ← v2.length, ← q2.length]
      cases hc : (ds.length == es.length) with
      | false =>
        have hne : (i1.toArray.size != i2.toArray.size) = true := by rw [l1, l2]; simp [bne, hc]
        exact ⟨fun Q E q => SeqAt.RcAt.lists_lengths p1.isList p2.isList hne b.rm.units0 X.prog X.w E Q q, fun Q E q => SeqAt.RcNeAt.lists_lengths p1.isList p2.isList hne b.rm.units0 X.prog X.w E Q q⟩
      | true =>
        have heq : ds.length = es.length := by simpa using hc
        have z : i1.toArray.size = 0 := by
          rw [l1]
          rcases hl with z | z
          · subst z; rfl
          · subst z; exact heq
        have sz : i1.toArray.size = i2.toArray.size := by rw [l1, l2, heq]
        refine ⟨fun Q E q => SeqAt.RcAt.lists (e := fun _ => true) p1.isList p2.isList sz b.rm.units0 (fun j j1 j2 => by omega) X.prog X.w E Q ?_, fun Q E q => SeqAt.RcNeAt.lists (e := fun _ => true) p1.isList p2.isList sz b.rm.units0 (fun j j1 j2 => by omega) X.prog X.w E Q ?_⟩
        · rw [z]; exact q
        · rw [z]; exact q
    · have z1 := deref_id e1 (by intro _ z; cases z)
      have z2 := deref_id e2 (by intro _ z; cases z)
      subst z1 z2
      obtain ⟨a1, xs1, rfl, h1, q1⟩ := ra.tup_inv
      obtain ⟨a2, xs2, rfl, h2, q2⟩ := rb.tup_inv
      cases rx; cases ry
      obtain ⟨i1, v1, p1, _⟩ := I.tuple h1.sq
      obtain ⟨i2, v2, p2, _⟩ := I.tuple h2.sq
      have l1 : i1.toArray.size = ds.length := by rw [List.size_toArray, ← v1.length, ← q1.length]
      have l2 : i2.toArray.size = es.length := by rw [List.size_toArray, ← v2.length, ← q2.length]
      have m0 : min i1.toArray.size i2.toArray.size = 0 := by
        rw [l1, l2]
        rcases hl with z | z <;> subst z <;> simp
      have val : ((List.range (min i1.toArray.size i2.toArray.size)).all (fun _ => true) && i1.toArray.size == i2.toArray.size) = (ds.length == es.length) := by rw [m0, l1, l2]; rfl
      exact ⟨fun Q E q => SeqAt.RcAt.tuples (e := fun _ => true) p1 p2 b.rm.units0 (fun j j1 j2 => by omega) X.prog X.w E Q (by rw [val]; exact q),
        fun Q E q => SeqAt.RcNeAt.tuples (e := fun _ => true) p1 p2 b.rm.units0 (fun j j1 j2 => by omega) X.prog X.w E Q (by rw [val]; exact q)⟩
theorem op_eqD' (b : RG k X.A) : OpD X (compareOp .Eq) eqD := by
  intro pins s σ H x y v u Q I rx ry ⟨W, da, db, d, e, ok, ra, rb, hg, q⟩
  subst e
  unfold eqD at hg
  cases h : eqB (deref W.st da) (deref W.st db) with
  | none => rw [h] at hg; cases hg
  | some r =>
    rw [h] at hg
    cases hg
    exact (cmp_data b I ok ra rb rx ry h).1 _ _ ⟨.bl r, W.H, I, rfl, q W _ rfl ok (Ext.refl _) (.bl r)⟩
theorem op_neD' (b : RG k X.A) : OpD X (compareOp .NotEq) neD := by
  intro pins s σ H x y v u Q I rx ry ⟨W, da, db, d, e, ok, ra, rb, hg, q⟩
  subst e
  unfold neD at hg
  cases h : eqB (deref W.st da) (deref W.st db) with
  | none => rw [h] at hg; cases hg
  | some r =>
    rw [h] at hg
    cases hg
    exact (cmp_data b I ok ra rb rx ry h).2 _ _ ⟨.bl (!r), W.H, I, rfl, q W _ rfl ok (Ext.refl _) (.bl _)⟩
end

/-! ## in -/
/-- x in a list or a tuple of data; a text in a text -/
def inB (st : Sto) (x : D) (c : D) : Option Bool := match deref st c with
  | .lst es => if pln x && plnL es && decide ((py x).depth ≤ 150) then some (es.any fun y => PyData.eqv (py y) (py x)) else none
  | .tup es => if pln x && plnL es && decide ((py x).depth ≤ 150) then some (es.any fun y => PyData.eqv (py y) (py x)) else none
  | .str j => match x with | .str i => some (!(Builtin.Str.occurrences j i 0 j.length 1).isEmpty) | _ => none
  | _ => none
def inD (a b : D) (st : Sto) : Option D := (inB st a b).map .bl
def notInD (a b : D) (st : Sto) : Option D := (inB st a b).map fun k => .bl (!k)
section
variable {X : Cx} {pins : List (Addr × Obj)} {σ : St} {W : Wd} {s : Shared} {k : Nat}
theorem any_py (es : List D) (p : PyData) : ((pyL es).any fun y => PyData.eqv y p) = es.any fun y => PyData.eqv (py y) p := by
  rw [pyL_map, List.any_map]; rfl
theorem in_data (b : RG k X.A) {da db : D} {v u : V} {vv uv : Value} {r : Bool} (I : Inv X pins σ W.H s) (ok : WOk (cn X) W) (ra : Rep (cn X) W da v) (rb : Rep (cn X) W db u) (rx : RelV v vv) (ry : RelV u uv)
    (h : inB W.st da db = some r) : (∀ (Q : Value → Shared → Prop) (E : Value → Shared → Prop), Q (.bool r) s → wpAny (model X.prog X.w) X.A (compareOp .In vv uv) Q E s) ∧
      (∀ (Q : Value → Shared → Prop) (E : Value → Shared → Prop), Q (.bool (!r)) s → wpAny (model X.prog X.w) X.A (compareOp .NotIn vv uv) Q E s) := by
  unfold inB at h
  have go : ∀ {es : List D}, (if pln da && plnL es && decide ((py da).depth ≤ 150) then some (es.any fun y => PyData.eqv (py y) (py da)) else none) = some r →
      ∃ as, Reads s.heap vv (py da) as ∧ plnL es = true ∧ (py da).plain = true ∧ X.A.units + 1 + min (PyData.depthAll (pyL es)) (py da).depth < cLine ∧ r = ((pyL es).any fun y => PyData.eqv y (py da)) := fun {es} h => by
    by_cases c : (pln da && plnL es && decide ((py da).depth ≤ 150)) = true
    · rw [if_pos c] at h
      simp only [Bool.and_eq_true, decide_eq_true_eq] at c
      obtain ⟨as, r1⟩ := Rep.reads I ra (pur_of_pln _ c.1.1) rx
      refine ⟨as, r1, c.1.2, py_plain _ c.1.1, ?_, by rw [any_py]; exact (Option.some.inj h).symm⟩
      have := b.rm.un
      have := c.2
      omega
    · rw [if_neg c] at h; cases h
  cases e : deref W.st db with
  | lst es =>
    rw [e] at h
    obtain ⟨as, r1, pe, pd, lo, rfl⟩ := go h
    obtain ⟨bs, r2⟩ := deref_reads I ok rb (by rw [e]; unfold pur; exact purL_of_plnL es pe) ry
    rw [e] at r2
    exact ⟨fun Q E q => SeqAt.in_list_data r2 r1 (pyL_plain es pe) pd lo q, fun Q E q => SeqAt.notIn_list_data r2 r1 (pyL_plain es pe) pd lo q⟩
  | tup es =>
    rw [e] at h
    obtain ⟨as, r1, pe, pd, lo, rfl⟩ := go h
    obtain ⟨bs, r2⟩ := deref_reads I ok rb (by rw [e]; unfold pur; exact purL_of_plnL es pe) ry
    rw [e] at r2
    exact ⟨fun Q E q => SeqAt.in_tuple_data r2 r1 (pyL_plain es pe) pd lo q, fun Q E q => SeqAt.notIn_tuple_data r2 r1 (pyL_plain es pe) pd lo q⟩
  | str j =>
    rw [e] at h
    have z := deref_id e (by intro _ z; cases z)
    subst z
    cases da with
    | str i =>
      cases h
      rw [ra.str_inv] at rx
      rw [rb.str_inv] at ry
      obtain ⟨t, rfl⟩ := rx
      obtain ⟨t', rfl⟩ := ry
      exact ⟨fun Q E q => PyProof.Rows.in_str q, fun Q E q => PyProof.Rows.notIn_str q⟩
    | _ => cases h
  | _ => rw [e] at h; cases h
theorem op_inD (b : RG k X.A) : OpD X (compareOp .In) inD := by
  intro pins s σ H x y v u Q I rx ry ⟨W, da, db, d, e, ok, ra, rb, hg, q⟩
  subst e
  unfold inD at hg
  cases h : inB W.st da db with
  | none => rw [h] at hg; cases hg
  | some r =>
    rw [h] at hg
    cases hg
    exact (in_data b I ok ra rb rx ry h).1 _ _ ⟨.bl r, W.H, I, rfl, q W _ rfl ok (Ext.refl _) (.bl r)⟩
theorem op_notInD (b : RG k X.A) : OpD X (compareOp .NotIn) notInD := by
  intro pins s σ H x y v u Q I rx ry ⟨W, da, db, d, e, ok, ra, rb, hg, q⟩
  subst e
  unfold notInD at hg
  cases h : inB W.st da db with
  | none => rw [h] at hg; cases hg
  | some r =>
    rw [h] at hg
    cases hg
    exact (in_data b I ok ra rb rx ry h).2 _ _ ⟨.bl (!r), W.H, I, rfl, q W _ rfl ok (Ext.refl _) (.bl _)⟩
end

/-! ## numbers, order, is -/
def b2I (b : Bool) : Int := if b = true then 1 else 0
def addD (a b : D) (st : Sto) : Option D := match a, b with
  | .int i, .int j => some (.int (i + j))
  | .int i, .bl j => some (.int (i + b2I j))
  | .bl i, .int j => some (.int (b2I i + j))
  | .str x, .str y => if small (x.length + y.length) then some (.str (x ++ y)) else none
  | .tup xs, .tup ys => if small (xs.length + ys.length) then some (.tup (xs ++ ys)) else none
  | a, b => match deref st a, deref st b with
    | .lst xs, .lst ys => if small (xs.length + ys.length) then some (.lst (xs ++ ys)) else none
    | _, _ => none
def subD (a b : D) (_ : Sto) : Option D := match a, b with
  | .int i, .int j => some (.int (i - j))
  | .int i, .bl j => some (.int (i - b2I j))
  | .bl i, .int j => some (.int (b2I i - j))
  | _, _ => none
def mulD (a b : D) (_ : Sto) : Option D := match a, b with
  | .int i, .int j => if i.natAbs.log2 + j.natAbs.log2 < 1000000 then some (.int (i * j)) else none
  | .tup xs, .int k => if xs.isEmpty = false ∧ 2 ≤ k ∧ k ≤ 1000 ∧ xs.length ≤ 1000 then some (.tup (List.replicate k.toNat xs).flatten) else none
  | .str x, .int k => if 1 ≤ k ∧ k ≤ 1000 ∧ x.length ≤ 1000 then some (.str (Txt.mul x k)) else none
  | _, _ => none
def fdivD (a b : D) (_ : Sto) : Option D := match a, b with
  | .int i, .int j => if 0 < j ∧ j.natAbs.log2 < 9000 then some (.int (i / j)) else none
  | _, _ => none
def modD (a b : D) (_ : Sto) : Option D := match a, b with
  | .int i, .int j => if 0 < j then some (.int (i % j)) else none
  | _, _ => none
def powD (a b : D) (_ : Sto) : Option D := match a, b with
  | .int i, .int j => if 0 ≤ j ∧ j ≤ 1000000 ∧ i.natAbs < 2 ^ 64 then some (.int (i ^ j.toNat)) else none
  | _, _ => none
def ltD (a b : D) (_ : Sto) : Option D := match a, b with
  | .int i, .int j => some (.bl (decide (i < j)))
  | .str x, .str y => some (.bl (decide (x.cps.toList < y.cps.toList)))
  | _, _ => none
def leD (a b : D) (_ : Sto) : Option D := match a, b with
  | .int i, .int j => some (.bl (decide (i ≤ j)))
  | .str x, .str y => some (.bl (!decide (y.cps.toList < x.cps.toList)))
  | _, _ => none
def gtD (a b : D) (_ : Sto) : Option D := match a, b with
  | .int i, .int j => some (.bl (decide (j < i)))
  | _, _ => none
def geD (a b : D) (_ : Sto) : Option D := match a, b with
  | .int i, .int j => some (.bl (decide (j ≤ i)))
  | _, _ => none
/-- is: truths, and what is (not) None -/
def isB : D → D → Option Bool
  | .bl a, .bl b => some (a == b)
  | .non, .non => some true
  | .cell _, .non | .glob _, .non | .scr _, .non | .exc _ _ _, .non | .bl _, .non | .int _, .non | .str _, .non | .tup _, .non | .lst _, .non | .dct _ _, .non => some false
  | _, _ => none
def isD (a b : D) (_ : Sto) : Option D := (isB a b).map .bl
def isNotD (a b : D) (_ : Sto) : Option D := (isB a b).map fun k => .bl (!k)
section
variable {X : Cx} {k : Nat}
/-- a value that is no object, out of an operation that the library knows -/
theorem fin_flat {W : Wd} {Q : VK} {d : D} {v : V} (ok : WOk (cn X) W) (q : ∀ W' v, W'.st = W.st → WOk (cn X) W' → Ext W W' → Rep (cn X) W' d v → Q v W'.H) (r : Rep (cn X) W d v) : Q v W.H := q W v rfl ok (Ext.refl _) r
theorem flat_op {f : Value → Value → Sem Value} {r : R2} (ho : OpR X f r) {pins : List (Addr × Obj)} {σ : St} {W : Wd} {s : Shared} {Q : VK} {x y : V} {v u : Value} (I : Inv X pins σ W.H s) (rx : RelV x v) (ry : RelV y u) (h : r x y W.H Q) :
    wpAny (model X.prog X.w) X.A (f v u) (EP X pins σ Q) X.xe s := ho pins s σ W.H x y v u Q I rx ry h
theorem op_addD : OpD X (binaryOp .Add) addD := by
  intro pins s σ H x y v u Q I rx ry ⟨W, da, db, d, e, ok, ra, rb, hg, q⟩
  subst e
  have lists : (match deref W.st da, deref W.st db with
    | .lst xs, .lst ys => if small (xs.length + ys.length) then some (D.lst (xs ++ ys)) else none
    | _, _ => none) = some d → wpAny (model X.prog X.w) X.A (binaryOp .Add v u) (EP X pins σ Q) X.xe s := fun hg => by
    cases ea : deref W.st da with
    | lst xs =>
      cases eb : deref W.st db with
      | lst ys =>
        rw [ea, eb] at hg
        simp only at hg
        by_cases c : small (xs.length + ys.length) = true
        · rw [if_pos c] at hg
          cases hg
          obtain ⟨a1, xs1, rfl, h1, q1⟩ := lst_obj I ok ra ea
          obtain ⟨a2, xs2, rfl, h2, q2⟩ := lst_obj I ok rb eb
          have hz : xs1.length + xs2.length ≤ sizeLine := by rw [← q1.length, ← q2.length]; exact small_iff.mp c
          refine flat_op op_cat I rx ry ⟨a1, a2, xs1, xs2, rfl, rfl, h1, h2, hz, fun p hp => ?_⟩
          exact q (W.lay p _) _ rfl (lay_ok ok hp _) (lay_ext ok hp _) (lay_lst ok hp (q1.append q2))
        · rw [if_neg c] at hg; cases hg
      | _ => rw [ea, eb] at hg; cases hg
    | _ => rw [ea] at hg; cases hg
  unfold addD at hg
  split at hg
  · cases hg
    rw [ra.int_inv] at rx
    rw [rb.int_inv] at ry
    exact flat_op op_add I rx ry ⟨_, _, rfl, rfl, fin_flat ok q (.int _)⟩
  · cases hg
    rw [ra.int_inv] at rx
    rw [rb.bl_inv] at ry
    exact flat_op op_add_ib I rx ry ⟨_, _, rfl, rfl, fin_flat ok q (.int _)⟩
  · cases hg
    rw [ra.bl_inv] at rx
    rw [rb.int_inv] at ry
    obtain ⟨t, rfl⟩ := ry
    cases rx
    exact PySem.IntBool.add_bool_int ⟨.int _, W.H, I.tok _, ⟨_, rfl⟩, fin_flat ok q (.int _)⟩
  · rename_i x' y'
    by_cases c : small (x'.length + y'.length) = true
    · rw [if_pos c] at hg
      cases hg
      rw [ra.str_inv] at rx
      rw [rb.str_inv] at ry
      exact flat_op op_add_str I rx ry ⟨_, _, rfl, rfl, small_iff.mp c, fin_flat ok q (.str _)⟩
    · rw [if_neg c] at hg; cases hg
  · rename_i xs ys
    by_cases c : small (xs.length + ys.length) = true
    · rw [if_pos c] at hg
      cases hg
      obtain ⟨a1, xs1, rfl, h1, q1⟩ := ra.tup_inv
      obtain ⟨a2, xs2, rfl, h2, q2⟩ := rb.tup_inv
      refine flat_op op_catA I rx ry ⟨a1, a2, xs1, xs2, rfl, rfl, h1.sq, h2.sq, by rw [← q1.length, ← q2.length]; exact small_iff.mp c, fun z => ?_, fun _ z => ?_, fun _ _ p hp => ?_⟩
      · subst z
        have : xs = [] := List.eq_nil_of_length_eq_zero q1.length
        subst this
        exact q W _ rfl ok (Ext.refl _) rb
      · subst z
        have : ys = [] := List.eq_nil_of_length_eq_zero q2.length
        subst this
        rw [List.append_nil] at q
        exact q W _ rfl ok (Ext.refl _) ra
      · exact q (W.lay p _) _ rfl (lay_ok ok hp _) (lay_ext ok hp _) (lay_tup ok hp (q1.append q2))
    · rw [if_neg c] at hg; cases hg
  · exact lists hg
theorem op_subD : OpD X (binaryOp .Sub) subD := by
  intro pins s σ H x y v u Q I rx ry ⟨W, da, db, d, e, ok, ra, rb, hg, q⟩
  subst e
  unfold subD at hg
  split at hg
  · cases hg
    rw [ra.int_inv] at rx
    rw [rb.int_inv] at ry
    exact flat_op op_sub I rx ry ⟨_, _, rfl, rfl, fin_flat ok q (.int _)⟩
  · cases hg
    rw [ra.int_inv] at rx
    rw [rb.bl_inv] at ry
    obtain ⟨t, rfl⟩ := rx
    cases ry
    exact PySem.IntBool.sub_int_bool ⟨.int _, W.H, I.tok _, ⟨_, rfl⟩, fin_flat ok q (.int _)⟩
  · cases hg
    rw [ra.bl_inv] at rx
    rw [rb.int_inv] at ry
    obtain ⟨t, rfl⟩ := ry
    cases rx
    exact PySem.IntBool.sub_bool_int ⟨.int _, W.H, I.tok _, ⟨_, rfl⟩, fin_flat ok q (.int _)⟩
  · cases hg
theorem mulOk_small {x : Str} {k : Int} (c : 1 ≤ k ∧ k ≤ 1000 ∧ x.length ≤ 1000) : MulOk x k := by
  obtain ⟨c1, c2, c3⟩ := c
  refine ⟨?_, fun _ _ => ?_, fun _ _ => ?_⟩
  · rw [Bool.or_eq_false_iff]
    exact ⟨decide_eq_false (by omega), decide_eq_false (by omega)⟩
  · have h : (1000 : Int) ≤ (2 ^ 63 - 1) / k := (Int.le_ediv_iff_mul_le (by omega)).mpr (by omega)
    omega
  · have h : x.length * k.toNat ≤ 1000 * 1000 := Nat.mul_le_mul c3 (by omega)
    have h2 : x.length * k.toNat ≤ sizeLine := Nat.le_trans h (by decide)
    exact decide_eq_false (by omega)
theorem op_mulD : OpD X (binaryOp .Mult) mulD := by
  intro pins s σ H x y v u Q I rx ry ⟨W, da, db, d, e, ok, ra, rb, hg, q⟩
  subst e
  unfold mulD at hg
  split at hg
  · split at hg
    · rename_i c
      cases hg
      rw [ra.int_inv] at rx
      rw [rb.int_inv] at ry
      exact flat_op op_mulW I rx ry ⟨_, _, rfl, rfl, c, fin_flat ok q (.int _)⟩
    · cases hg
  · rename_i xs k
    split at hg
    · rename_i c
      cases hg
      obtain ⟨a1, xs1, rfl, h1, q1⟩ := ra.tup_inv
      rw [rb.int_inv] at ry
      refine flat_op op_repT I rx ry ⟨a1, k, xs1, rfl, rfl, h1.sq, ?_, c.2.1, c.2.2.1, by rw [← q1.length]; exact c.2.2.2, fun p hp => ?_⟩
      · intro z
        subst z
        have : xs = [] := List.eq_nil_of_length_eq_zero q1.length
        subst this
        exact absurd c.1 (by simp)
      · have many : ∀ n : Nat, RepL (cn X) W (List.replicate n xs).flatten (List.replicate n xs1).flatten := fun n => by
          induction n with
          | zero => exact .nil
          | succ n ih => rw [List.replicate_succ, List.replicate_succ, List.flatten_cons, List.flatten_cons]; exact q1.append ih
        exact q (W.lay p _) _ rfl (lay_ok ok hp _) (lay_ext ok hp _) (lay_tup ok hp (many k.toNat))
    · cases hg
  · rename_i x k
    split at hg
    · rename_i c
      cases hg
      rw [ra.str_inv] at rx
      rw [rb.int_inv] at ry
      obtain ⟨t, rfl⟩ := rx
      obtain ⟨t', rfl⟩ := ry
      exact PySem.SB.mul (mulOk_small c) fun t' k' => ⟨.str _, W.H, I.tok _, ⟨_, rfl⟩, fin_flat ok q (.str _)⟩
    · cases hg
  · cases hg
theorem op_fdivD : OpD X (binaryOp .FloorDiv) fdivD := by
  intro pins s σ H x y v u Q I rx ry ⟨W, da, db, d, e, ok, ra, rb, hg, q⟩
  subst e
  unfold fdivD at hg
  split at hg
  · split at hg
    · rename_i c
      cases hg
      rw [ra.int_inv] at rx
      rw [rb.int_inv] at ry
      exact flat_op op_fdivW I rx ry ⟨_, _, rfl, rfl, c, fin_flat ok q (.int _)⟩
    · cases hg
  · cases hg
theorem op_modD : OpD X (binaryOp .Mod) modD := by
  intro pins s σ H x y v u Q I rx ry ⟨W, da, db, d, e, ok, ra, rb, hg, q⟩
  subst e
  unfold modD at hg
  split at hg
  · split at hg
    · rename_i c
      cases hg
      rw [ra.int_inv] at rx
      rw [rb.int_inv] at ry
      exact flat_op op_mod I rx ry ⟨_, _, rfl, rfl, c, fin_flat ok q (.int _)⟩
    · cases hg
  · cases hg
theorem op_powD : OpD X (binaryOp .Pow) powD := by
  intro pins s σ H x y v u Q I rx ry ⟨W, da, db, d, e, ok, ra, rb, hg, q⟩
  subst e
  unfold powD at hg
  split at hg
  · split at hg
    · rename_i c
      cases hg
      rw [ra.int_inv] at rx
      rw [rb.int_inv] at ry
      exact flat_op op_pow I rx ry ⟨_, _, rfl, rfl, c, fin_flat ok q (.int _)⟩
    · cases hg
  · cases hg
theorem op_ltD : OpD X (compareOp .Lt) ltD := by
  intro pins s σ H x y v u Q I rx ry ⟨W, da, db, d, e, ok, ra, rb, hg, q⟩
  subst e
  unfold ltD at hg
  split at hg
  · cases hg
    rw [ra.int_inv] at rx
    rw [rb.int_inv] at ry
    exact flat_op op_lt I rx ry ⟨_, _, rfl, rfl, fin_flat ok q (.bl _)⟩
  · cases hg
    rw [ra.str_inv] at rx
    rw [rb.str_inv] at ry
    exact flat_op op_lt_str I rx ry ⟨_, _, rfl, rfl, fin_flat ok q (.bl _)⟩
  · cases hg
theorem op_gtD : OpD X (compareOp .Gt) gtD := by
  intro pins s σ H x y v u Q I rx ry ⟨W, da, db, d, e, ok, ra, rb, hg, q⟩
  subst e
  unfold gtD at hg
  split at hg
  · cases hg
    rw [ra.int_inv] at rx
    rw [rb.int_inv] at ry
    exact flat_op op_gt I rx ry ⟨_, _, rfl, rfl, fin_flat ok q (.bl _)⟩
  · cases hg
theorem op_geD : OpD X (compareOp .GtE) geD := by
  intro pins s σ H x y v u Q I rx ry ⟨W, da, db, d, e, ok, ra, rb, hg, q⟩
  subst e
  unfold geD at hg
  split at hg
  · cases hg
    rw [ra.int_inv] at rx
    rw [rb.int_inv] at ry
    exact flat_op op_ge I rx ry ⟨_, _, rfl, rfl, fin_flat ok q (.bl _)⟩
  · cases hg
theorem op_leD : OpD X (compareOp .LtE) leD := by
  intro pins s σ H x y v u Q I rx ry ⟨W, da, db, d, e, ok, ra, rb, hg, q⟩
  subst e
  unfold leD at hg
  split at hg
  · cases hg
    rw [ra.int_inv] at rx
    rw [rb.int_inv] at ry
    exact flat_op op_le I rx ry ⟨_, _, rfl, rfl, fin_flat ok q (.bl _)⟩
  · cases hg
    rw [ra.str_inv] at rx
    rw [rb.str_inv] at ry
    exact flat_op op_le_str I rx ry ⟨_, _, rfl, rfl, fin_flat ok q (.bl _)⟩
  · cases hg
theorem isB_non {da : D} {r : Bool} (h : isB da .non = some r) {C : Cn} {W : Wd} {v : V} (ra : Rep C W da v) : r = decide (v = .non) := by
  cases da with
  | non => rw [ra.non_inv]; cases h; rfl
  | bl b => rw [ra.bl_inv]; cases h; rfl
  | int b => rw [ra.int_inv]; cases h; rfl
  | str b => rw [ra.str_inv]; cases h; rfl
  | tup b => obtain ⟨a, xs, rfl, _⟩ := ra.tup_inv; cases h; rfl
  | lst b => obtain ⟨a, xs, rfl, _⟩ := ra.lst_inv; cases h; rfl
  | dct k b => unfold Rep at ra; obtain ⟨a, xs, rfl, _⟩ := ra; cases h; rfl
  | cell n => obtain ⟨a, rfl, _⟩ := ra.cell_inv; cases h; rfl
  | glob n => unfold Rep at ra; obtain ⟨a, rfl, _⟩ := ra; cases h; rfl
  | scr n => unfold Rep at ra; obtain ⟨a, rfl, _⟩ := ra; cases h; rfl
  | exc c ks ds => unfold Rep at ra; obtain ⟨a, xs, rfl, _⟩ := ra; cases h; rfl
theorem isB_cases {da db : D} {r : Bool} (h : isB da db = some r) : (∃ a b, da = .bl a ∧ db = .bl b ∧ r = (a == b)) ∨ db = .non := by
  unfold isB at h
  split at h
  · cases h; exact .inl ⟨_, _, rfl, rfl, rfl⟩
  all_goals first | exact .inr rfl | cases h
theorem op_isD : OpD X (compareOp .Is) isD := by
  intro pins s σ H x y v u Q I rx ry ⟨W, da, db, d, e, ok, ra, rb, hg, q⟩
  subst e
  unfold isD at hg
  cases h : isB da db with
  | none => rw [h] at hg; cases hg
  | some r =>
    rw [h] at hg
    cases hg
    rcases isB_cases h with ⟨a, b, rfl, rfl, rfl⟩ | rfl
    · rw [ra.bl_inv] at rx
      rw [rb.bl_inv] at ry
      exact flat_op op_isBl I rx ry ⟨a, b, rfl, rfl, by rw [show decide (a = b) = (a == b) by cases a <;> cases b <;> rfl]; exact fin_flat ok q (.bl _)⟩
    · rw [rb.non_inv] at ry
      exact flat_op op_isN I rx ry ⟨rfl, by rw [← isB_non h ra]; exact fin_flat ok q (.bl _)⟩
theorem op_isNotD : OpD X (compareOp .IsNot) isNotD := by
  intro pins s σ H x y v u Q I rx ry ⟨W, da, db, d, e, ok, ra, rb, hg, q⟩
  subst e
  unfold isNotD at hg
  cases h : isB da db with
  | none => rw [h] at hg; cases hg
  | some r =>
    rw [h] at hg
    cases hg
    rcases isB_cases h with ⟨a, b, rfl, rfl, rfl⟩ | rfl
    · rw [ra.bl_inv] at rx
      rw [rb.bl_inv] at ry
      exact flat_op op_notBl I rx ry ⟨a, b, rfl, rfl, by rw [show decide (a = b) = (a == b) by cases a <;> cases b <;> rfl]; exact fin_flat ok q (.bl _)⟩
    · rw [rb.non_inv] at ry
      exact flat_op op_notN I rx ry ⟨rfl, by rw [← isB_non h ra]; exact fin_flat ok q (.bl _)⟩
/-- -n -/
def mNeg (m : EM) : EM := fun en st => mb (m en st) fun d st => match d with | .int i => .ok (.int (-i)) st | _ => .bad
theorem pd_neg {Wx : WX} {pos : Pos} {a : Expr} {m : EM} (h : PD X Wx a m) : PD X Wx (.UnaryOp .USub a pos) (mNeg m) := ⟨PE.weak (pe_un un_neg h.pe) fun σ H Q ⟨W, en, e, ok, er, q⟩ => by
  subst e
  refine seqE ok er q fun d W1 v ok1 e1 er1 r1 q1 => ?_
  cases d with
  | int i => exact ⟨i, r1.int_inv, q1 W1 _ rfl ok1 (Ext.refl _) (.int _)⟩
  | _ => exact q1.elim⟩
end
end Pd

namespace Pd
open PySem PySem.Spec L2
open PyProof.Rows hiding St
variable [Codes]

/-! ## rows of data -/
def seqB (st : Sto) (d : D) : Option (List D) := match d with
  | .scr ns => some (ns.map .int)
  | d => match deref st d with | .lst ds => some ds | .tup ds => some ds | _ => none
section
variable {X : Cx} {k : Nat} {Wx : WX}
theorem seq_of {W : Wd} {d : D} {v : V} {ds : List D} (ok : WOk (cn X) W) (r : Rep (cn X) W d v) (h : seqB W.st d = some ds) : ∃ p xs, v = .ref p ∧ RepL (cn X) W ds xs ∧ (SqL X.K W.H p xs ∨ SqT X.K W.H p xs) := by
  cases d with
  | scr ns =>
    cases h
    unfold Rep at r
    obtain ⟨a, rfl, q⟩ := r
    exact ⟨a, _, rfl, RepL.of_ints ns, .inl q.sq⟩
  | lst es =>
    cases h
    obtain ⟨a, xs, rfl, q, z⟩ := r.lst_inv
    exact ⟨a, xs, rfl, z, .inl q.sq⟩
  | tup es =>
    cases h
    obtain ⟨a, xs, rfl, q, z⟩ := r.tup_inv
    exact ⟨a, xs, rfl, z, .inr q.sq⟩
  | cell n =>
    have h : (match deref W.st (.cell n) with | .lst ds => some ds | .tup ds => some ds | _ => none) = some ds := h
    rw [deref_cell] at h
    cases e : W.st[n]? with
    | none => rw [e] at h; cases h
    | some c =>
      cases c with
      | lst es =>
        rw [e] at h; cases h
        obtain ⟨a, xs, rfl, _, hH, z⟩ := cell_lst ok r e
        exact ⟨a, xs, rfl, z, .inl (SqL.of hH)⟩
      | dct ks es => rw [e] at h; cases h
      | _ => rw [e] at h; cases h
  | _ => cases h

/-! ## a[b] -/
def ixD (a b : D) (st : Sto) : Option D := match b with
  | .int i => (match a with
    | .str z => if small z.length = true then (L2.atI z.cps.toList i).map fun c => .str ⟨#[c]⟩ else none
    | a => (seqB st a).bind fun ds => L2.atI ds i)
  | _ => none
theorem atI_rep {C : Cn} {W : Wd} {ds : List D} {xs : List V} {i : Int} {d : D} (r : RepL C W ds xs) (h : L2.atI ds i = some d) : ∃ v, L2.atI xs i = some v ∧ Rep C W d v := by
  unfold L2.atI at h ⊢
  rw [← r.length]
  cases e : L2.ixN ds.length i with
  | none => rw [e] at h; cases h
  | some j =>
    rw [e] at h
    exact r.get h
theorem op_ixD : IxR X (rD2 (cn X) ixD) := by
  intro value slice pins s σ H x y v u Q I rx ry ⟨W, da, db, d, e, ok, ra, rb, hg, q⟩
  subst e
  unfold ixD at hg
  cases db with
  | int i =>
    have gen : ∀ {ds : List D}, seqB W.st da = some ds → L2.atI ds i = some d → subscripted slice false v u = operate [v, u] (getItem v u) → wpAny (model X.prog X.w) X.A (subscriptTail value slice v u) (EP X pins σ Q) X.xe s := by
      intro ds h1 h2
      obtain ⟨p, xs, rfl, z, hs⟩ := seq_of ok ra h1
      obtain ⟨w, h3, h4⟩ := atI_rep z h2
      rw [rb.int_inv] at ry
      rcases hs with hs | hs
      · exact ix_list value slice pins s σ _ _ _ v u Q I rx ry ⟨p, xs, i, w, rfl, rfl, hs, h3, q W w rfl ok (Ext.refl _) h4⟩
      · exact ix_tup value slice pins s σ _ _ _ v u Q I rx ry ⟨p, xs, i, w, rfl, rfl, hs, h3, q W w rfl ok (Ext.refl _) h4⟩
    cases da with
    | str z =>
      have hg : (if small z.length = true then (L2.atI z.cps.toList i).map fun c => D.str ⟨#[c]⟩ else none) = some d := hg
      by_cases c : small z.length = true
      · rw [if_pos c] at hg
        cases e1 : L2.atI z.cps.toList i with
        | none => rw [e1] at hg; cases hg
        | some c' =>
          rw [e1] at hg
          cases hg
          rw [ra.str_inv] at rx
          rw [rb.int_inv] at ry
          exact ix_str value slice pins s σ _ _ _ v u Q I rx ry ⟨z, i, c', rfl, rfl, small_iff.mp c, e1, q W _ rfl ok (Ext.refl _) (.str _)⟩
      · rw [if_neg c] at hg; cases hg
    | _ =>
      have hg : (seqB W.st _).bind (fun ds => L2.atI ds i) = some d := hg
      obtain ⟨ds, h1, h2⟩ := Option.bind_eq_some_iff.mp hg
      exact gen h1 h2
  | _ => cases hg
theorem pd_ix {a b : Expr} {ma mb' : EM} {pos : Pos} (ha : PD X Wx a ma) (hb : PD X Wx b mb') (hs : PlainIx b := by first | (intro _ _; rfl) | exact plainIx_const _) : PD X Wx (.Subscript a b pos) (mOp ixD ma mb') :=
  ⟨PE.weak (pe_ix op_ixD ha.pe hb.pe hs) fun _ _ _ h => tOp_of (fun _ _ _ _ q => q) h⟩

/-! ## a[b:c] -/
abbrev OM := En → Sto → Out (Option Int)
def PostO (C : Cn) (Wx : WX) (W : Wd) (σ : St) (Q : Option Int → Hp → Prop) : Out (Option Int) → Prop
  | .ok d st => ∀ W', W'.st = st → WOk C W' → Ext W W' → Q d W'.H
  | .err e st => ∀ W' cls dd, W'.st = st → WOk C W' → Ext W W' → ExR C W' e cls dd → Wx cls dd σ W'.H
  | .bad => False
theorem PostO.ext {C : Cn} {W W' : Wd} {σ : St} {Q : Option Int → Hp → Prop} {o : Out (Option Int)} (h : PostO C Wx W σ Q o) (e : Ext W W') : PostO C Wx W' σ Q o := by
  cases o with
  | ok d st => exact fun W2 h1 h2 h3 => h W2 h1 h2 (e.trans h3)
  | err x st => exact fun W2 c dd h1 h2 h3 => h W2 c dd h1 h2 (e.trans h3)
  | bad => exact h
def tDO (C : Cn) (Wx : WX) (m : OM) : TO := fun σ H Q => ∃ W en, W.H = H ∧ WOk C W ∧ EnvR C W σ en ∧ PostO C Wx W σ Q (m en W.st)
structure PDO (X : Cx) (Wx : WX) (e : Option Expr) (m : OM) : Prop where
  po : PO X e (tDO (cn X) Wx m)
theorem PO.weak {e : Option Expr} {t t' : TO} (h : PO X e t) (f : ∀ σ H Q, t' σ H Q → t σ H Q) : PO X e t' := ⟨fun pins s σ H Q I q => h.run pins s σ H Q I (f σ H Q q)⟩
def oNone : OM := fun _ st => .ok none st
def oSome (m : EM) : OM := fun en st => mb (m en st) fun d st => match d with | .int i => .ok (some i) st | _ => .bad
theorem pdo_none : PDO X Wx none oNone := ⟨PO.weak po_none fun σ H Q ⟨W, en, e, ok, er, q⟩ => by subst e; exact q W rfl ok (Ext.refl _)⟩
theorem seqO {C : Cn} {W : Wd} {σ : St} {en : En} {m : EM} {f : D → Sto → Out (Option Int)} {Q : Option Int → Hp → Prop} {R : VK} (ok : WOk C W) (er : EnvR C W σ en) (h : PostO C Wx W σ Q (mb (m en W.st) f))
    (hok : ∀ d W' v, WOk C W' → Ext W W' → EnvR C W' σ en → Rep C W' d v → PostO C Wx W' σ Q (f d W'.st) → R v W'.H) : tD C Wx m σ W.H R := by
  refine ⟨W, en, rfl, ok, er, ?_⟩
  cases e : m en W.st with
  | ok d st =>
    rw [e] at h
    exact fun W' v h1 h2 h3 h4 => hok d W' v h2 h3 (er.ext h3) h4 (by subst h1; exact PostO.ext h h3)
  | err x st => rw [e] at h; exact h
  | bad => rw [e] at h; exact h
theorem pdo_some {e : Expr} {m : EM} (h : PD X Wx e m) : PDO X Wx (some e) (oSome m) := ⟨PO.weak (po_some h.pe) fun σ H Q ⟨W, en, e, ok, er, q⟩ => by
  subst e
  refine seqO ok er q fun d W1 v ok1 e1 er1 r1 q1 => ?_
  cases d with
  | int i => rw [r1.int_inv]; exact ⟨i, rfl, q1 W1 rfl ok1 (Ext.refl _)⟩
  | _ => exact q1.elim⟩
def cutD (ds : List D) (lo hi : Option Int) : List D := (ds.drop (HT.sIx ds.length 0 lo)).take (HT.sIx ds.length ds.length hi - HT.sIx ds.length 0 lo)
theorem cut_rep {C : Cn} {W : Wd} {ds : List D} {xs : List V} (r : RepL C W ds xs) (lo hi : Option Int) : RepL C W (cutD ds lo hi) (L2.cutV xs lo hi) := by
  unfold cutD L2.cutV
  rw [← r.length]
  exact (r.drop _).take _
def slD (a : D) (lo hi : Option Int) (st : Sto) : Option D := match a with
  | .str z => if small z.length = true then some (.str (L2.cutS z lo hi)) else none
  | .tup ds => some (.tup (cutD ds lo hi))
  | .scr ns => some (.lst (cutD (ns.map .int) lo hi))
  | a => match deref st a with | .lst ds => some (.lst (cutD ds lo hi)) | _ => none
def rSlD (C : Cn) : V → Option Int → Option Int → Hp → VK → Prop := fun x lo hi H Q => ∃ W a d, W.H = H ∧ WOk C W ∧ Rep C W a x ∧ slD a lo hi W.st = some d ∧ ∀ W' v, W'.st = W.st → WOk C W' → Ext W W' → Rep C W' d v → Q v W'.H
theorem cut_whole {ds : List D} {lo hi : Option Int} (h : HT.sIx ds.length 0 lo = 0 ∧ HT.sIx ds.length ds.length hi = ds.length) : cutD ds lo hi = ds := by
  unfold cutD
  rw [h.1, h.2]
  simp
theorem sl_D : L2.SlR X (rSlD (cn X)) := by
  intro pins s σ H x v vl vu lo hi sl Q I rx hs pl pu ⟨W, a, d, e, ok, ra, hg, q⟩
  subst e
  have lists : ∀ {p : Addr} {xs : List V} {ds : List D}, x = .ref p → SqL X.K W.H p xs → RepL (cn X) W ds xs → d = .lst (cutD ds lo hi) → ∃ T id, typeLookup (.type T) "__getitem__" = pure (some (.builtin id)) ∧ s.TypeIs v T ∧ wpAny (model X.prog X.w) X.A (getItem v (.ref sl)) (EP X pins σ Q) X.xe s := by
    intro p xs ds hx hq hr hd
    subst hd
    exact sl_list pins s σ _ x v vl vu lo hi sl Q I rx hs pl pu ⟨p, xs, hx, hq, fun p' hp => q (W.lay p' _) _ rfl (lay_ok ok hp _) (lay_ext ok hp _) (lay_lst ok hp (cut_rep hr lo hi))⟩
  unfold slD at hg
  cases a with
  | str z =>
    have hg : (if small z.length = true then some (D.str (L2.cutS z lo hi)) else none) = some d := hg
    by_cases c : small z.length = true
    · rw [if_pos c] at hg
      cases hg
      rw [ra.str_inv] at rx
      exact sl_str pins s σ _ _ v vl vu lo hi sl Q I rx hs pl pu ⟨z, rfl, small_iff.mp c, q W _ rfl ok (Ext.refl _) (.str _)⟩
    · rw [if_neg c] at hg; cases hg
  | tup ds =>
    cases hg
    have ra0 := ra
    obtain ⟨a1, xs1, rfl, h1, q1⟩ := ra.tup_inv
    refine sl_tupA pins s σ _ _ v vl vu lo hi sl Q I rx hs pl pu ⟨a1, xs1, rfl, h1.sq, fun z => ?_, fun z p hp => ?_⟩
    · rw [← q1.length] at z
      rw [cut_whole z] at q
      exact q W _ rfl ok (Ext.refl _) ra0
    · exact q (W.lay p _) _ rfl (lay_ok ok hp _) (lay_ext ok hp _) (lay_tup ok hp (cut_rep q1 lo hi))
  | scr ns =>
    cases hg
    unfold Rep at ra
    obtain ⟨a1, rfl, h1⟩ := ra
    exact lists rfl h1.sq (RepL.of_ints ns) rfl
  | lst ds =>
    cases hg
    obtain ⟨a1, xs1, rfl, h1, q1⟩ := ra.lst_inv
    exact lists rfl h1.sq q1 rfl
  | cell n =>
    have h : (match deref W.st (.cell n) with | .lst ds => some (D.lst (cutD ds lo hi)) | _ => none) = some d := hg
    rw [deref_cell] at h
    cases e : W.st[n]? with
    | none => rw [e] at h; cases h
    | some c =>
      cases c with
      | lst es =>
        rw [e] at h; cases h
        obtain ⟨a, xs, rfl, _, hH, z⟩ := cell_lst ok ra e
        exact lists rfl (SqL.of hH) z rfl
      | dct ks es => rw [e] at h; cases h
      | _ => rw [e] at h; cases h
  | _ => cases hg
def mSl (m : EM) (ml mh : OM) : EM := fun en st => mb (m en st) fun d st => mb (ml en st) fun lo st => mb (mh en st) fun hi st => lift (slD d lo hi st) st
theorem seqOE {C : Cn} {W : Wd} {σ : St} {en : En} {m : OM} {f : Option Int → Sto → Out D} {Q : VK} {R : Option Int → Hp → Prop} (ok : WOk C W) (er : EnvR C W σ en) (h : PostE C Wx W σ Q (mb (m en W.st) f))
    (hok : ∀ d W', WOk C W' → Ext W W' → EnvR C W' σ en → PostE C Wx W' σ Q (f d W'.st) → R d W'.H) : tDO C Wx m σ W.H R := by
  refine ⟨W, en, rfl, ok, er, ?_⟩
  cases e : m en W.st with
  | ok d st =>
    rw [e] at h
    exact fun W' h1 h2 h3 => hok d W' h2 h3 (er.ext h3) (by subst h1; exact PostE.ext h h3)
  | err x st => rw [e] at h; exact h
  | bad => rw [e] at h; exact h
theorem pd_slice {e : Expr} {lo hi : Option Expr} {m : EM} {ml mh : OM} {p2 pos : Pos} (he : PD X Wx e m) (hl : PDO X Wx lo ml) (hh : PDO X Wx hi mh) : PD X Wx (.Subscript e (.Slice lo hi none p2) pos) (mSl m ml mh) :=
  ⟨PE.weak (pe_slice sl_D he.pe hl.po hh.po) fun σ H Q ⟨W, en, e, ok, er, q⟩ => by
    subst e
    refine seqE ok er q fun d W1 v ok1 e1 er1 r1 q1 => ?_
    refine seqOE ok1 er1 q1 fun l W2 ok2 e2 er2 q2 => ?_
    refine seqOE ok2 er2 q2 fun u W3 ok3 e3 er3 q3 => ?_
    cases e4 : slD d l u W3.st with
    | none => rw [e4] at q3; exact q3.elim
    | some d' => rw [e4] at q3; exact ⟨W3, d, d', rfl, ok3, (r1.ext e2).ext e3, e4, q3⟩⟩

/-! ## xs[::-1], lists -/
def revD (d : D) (st : Sto) : Option D := match d with
  | .scr ns => some (.lst (ns.map D.int).reverse)
  | d => match deref st d with | .lst ds => some (.lst ds.reverse) | _ => none
def mUn (g : D → Sto → Option D) (m : EM) : EM := fun en st => mb (m en st) fun d st => lift (g d st) st
theorem lists_of {W : Wd} {d : D} {v : V} {ds : List D} (ok : WOk (cn X) W) (r : Rep (cn X) W d v) (h : deref W.st d = .lst ds) : ∃ p xs, v = .ref p ∧ RepL (cn X) W ds xs ∧ W.H p = some (.lst xs) := by
  cases d with
  | lst es =>
    cases h
    obtain ⟨a, xs, rfl, q, z⟩ := r.lst_inv
    exact ⟨a, xs, rfl, z, q.1⟩
  | cell n =>
    rw [deref_cell] at h
    cases e : W.st[n]? with
    | none => rw [e] at h; cases h
    | some c =>
      cases c with
      | lst es =>
        rw [e] at h; cases h
        obtain ⟨a, xs, rfl, _, hH, z⟩ := cell_lst ok r e
        exact ⟨a, xs, rfl, z, hH⟩
      | dct ks es => rw [e] at h; cases h
      | _ => rw [e] at h; cases h
  | _ => cases h
theorem pd_revL {e : Expr} {m : EM} {k' : Nat} {p1 p2 p3 pos : Pos} (he : PD X Wx e m) : PD X Wx (.Subscript e (.Slice none none (some (.UnaryOp .USub (.Constant (.int 1) k' p1) p2)) p3) pos) (mUn revD m) :=
  ⟨PE.weak (pe_revL he.pe) fun σ H Q ⟨W, en, e, ok, er, q⟩ => by
    subst e
    refine seqE ok er q fun d W1 v ok1 e1 er1 r1 q1 => ?_
    cases e4 : revD d W1.st with
    | none => rw [e4] at q1; exact q1.elim
    | some d' =>
      rw [e4] at q1
      have fin : ∀ {ds : List D} {p : Addr} {xs : List V}, d' = .lst ds.reverse → SqL X.K W1.H p xs → RepL (cn X) W1 ds xs → v = .ref p → ∃ a xs, v = .ref a ∧ SqL X.K W1.H a xs ∧ ∀ p, W1.H p = none → Q (.ref p) (upd W1.H p (.lst xs.reverse)) := by
        intro ds p xs h1 h2 h3 h4
        subst h1
        exact ⟨p, xs, h4, h2, fun p' hp => q1 (W1.lay p' _) _ rfl (lay_ok ok1 hp _) (lay_ext ok1 hp _) (lay_lst ok1 hp h3.reverse)⟩
      unfold revD at e4
      cases d with
      | scr ns =>
        cases e4
        unfold Rep at r1
        obtain ⟨a, rfl, z⟩ := r1
        exact fin rfl z.sq (RepL.of_ints ns) rfl
      | lst ds =>
        cases e4
        obtain ⟨p, xs, rfl, z, hH⟩ := lists_of ok1 r1 rfl
        exact fin rfl (SqL.of hH) z rfl
      | cell n =>
        have e4 : (match deref W1.st (.cell n) with | .lst ds => some (D.lst ds.reverse) | _ => none) = some d' := e4
        cases e5 : deref W1.st (.cell n) with
        | lst ds =>
          rw [e5] at e4
          cases e4
          obtain ⟨p, xs, rfl, z, hH⟩ := lists_of ok1 r1 e5
          exact fin rfl (SqL.of hH) z rfl
        | _ => rw [e5] at e4; cases e4
      | _ => cases e4⟩

/-! ## calls of what is built in -/
abbrev GC := List D → Sto → Option (D × Sto)
def rDC (C : Cn) (g : GC) : List V → Hp → VK → Prop := fun xs H Q => ∃ W ds d st, W.H = H ∧ WOk C W ∧ RepL C W ds xs ∧ g ds W.st = some (d, st) ∧ ∀ W' v, W'.st = st → WOk C W' → Ext W W' → Rep C W' d v → Q v W'.H
def CallD (X : Cx) (f : Value) (g : GC) : Prop := CallR X f (rDC (cn X) g)
def lift2 (o : Option (D × Sto)) : Out D := match o with | some (d, st) => .ok d st | none => .bad
def mBlt (g : GC) (lm : LM) : EM := fun en st => mb (lm en st) fun ds st => lift2 (g ds st)
theorem tCB_of {g : GC} {lm : LM} {σ : St} {H : Hp} {Q : VK} (h : tD (cn X) Wx (mBlt g lm) σ H Q) : tCB (rDC (cn X) g) (tDL (cn X) Wx lm) σ H Q := by
  obtain ⟨W, en, e, ok, er, q⟩ := h
  subst e
  refine seqLE ok er q fun ds W1 vs ok1 e1 er1 r1 q1 => ?_
  cases e4 : g ds W1.st with
  | none => rw [e4] at q1; exact q1.elim
  | some z =>
    obtain ⟨d, st⟩ := z
    rw [e4] at q1
    exact ⟨W1, ds, d, st, rfl, ok1, r1, e4, q1⟩
theorem pd_blt {id : String} {x : Str} {g : GC} {e : Expr} {es : List Expr} {lm : LM} {p pos : Pos} (hc : CallD X (.builtin id) g) (ha : PDA X Wx (e :: es) lm) (hm : X.mg x = none) (hg : Gl X x := by rfl) (hv : bootBuiltins x = some (.builtin id) := by rfl) (hn : x ≠ "__name__" := by decide) (hdb : (x == ("__debug__" : Str)) = false := by decide)
    (he : starEach (e :: es) X.env = (false, eval e X.env) :: starEach es X.env := by rfl) (hpl : (backTo pos (starEach es X.env)).any (·.1) = false := by rfl) : PD X Wx (.Call (.Name x p) (e :: es) [] pos) (mBlt g lm) :=
  ⟨PE.weak (pe_callB hc hg hm hv ha.pa hn hdb he hpl) fun _ _ _ h => tCB_of h⟩
theorem pd_ty {T : String} {x : Str} {g : GC} {e : Expr} {es : List Expr} {lm : LM} {p pos : Pos} (hc : CallD X (.type T) g) (ha : PDA X Wx (e :: es) lm) (hm : X.mg x = none) (hg : Gl X x := by rfl) (hv : bootBuiltins x = some (.type T) := by rfl) (hn : x ≠ "__name__" := by decide) (hdb : (x == ("__debug__" : Str)) = false := by decide)
    (he : starEach (e :: es) X.env = (false, eval e X.env) :: starEach es X.env := by rfl) (hpl : (backTo pos (starEach es X.env)).any (·.1) = false := by rfl) : PD X Wx (.Call (.Name x p) (e :: es) [] pos) (mBlt g lm) :=
  ⟨PE.weak (pe_callTy hc hg hm hv ha.pa hn hdb he hpl) fun _ _ _ h => tCB_of h⟩
theorem RepL.one {C : Cn} {W : Wd} {d : D} {xs : List V} (r : RepL C W [d] xs) : ∃ v, xs = [v] ∧ Rep C W d v := by
  obtain ⟨v, t, rfl, h1, h2⟩ := r.cons_inv
  obtain rfl := h2.nil_inv
  exact ⟨v, rfl, h1⟩
theorem RepL.two {C : Cn} {W : Wd} {d e : D} {xs : List V} (r : RepL C W [d, e] xs) : ∃ v u, xs = [v, u] ∧ Rep C W d v ∧ Rep C W e u := by
  obtain ⟨v, t, rfl, h1, h2⟩ := r.cons_inv
  obtain ⟨u, rfl, h3⟩ := h2.one
  exact ⟨v, u, rfl, h1, h3⟩
/-- len -/
def lenB (d : D) (st : Sto) : Option Nat := match d with
  | .str z => if small z.length = true then some z.length else none
  | d => (seqB st d).map List.length
def lenG : GC := fun ds st => match ds with | [d] => (lenB d st).map fun n => (.int n, st) | _ => none
theorem call_lenD : CallD X (.builtin "len") lenG := by
  intro pins s σ H xs us Q I rv ⟨W, ds, d, st, e, ok, r, hg, q⟩
  subst e
  unfold lenG at hg
  split at hg
  · rename_i d0
    obtain ⟨v, rfl, r1⟩ := r.one
    cases e1 : lenB d0 W.st with
    | none => rw [e1] at hg; cases hg
    | some n =>
      rw [e1] at hg
      cases hg
      refine call_len pins s σ _ _ us Q I rv ⟨v, n, rfl, ?_, q W _ rfl ok (Ext.refl _) (.int _)⟩
      unfold lenB at e1
      cases d0 with
      | str z =>
        have e1 : (if small z.length = true then some z.length else none) = some n := e1
        by_cases c : small z.length = true
        · rw [if_pos c] at e1
          cases e1
          rw [r1.str_inv]
          exact ⟨small_iff.mp c, rfl⟩
        · rw [if_neg c] at e1; cases e1
      | _ =>
        obtain ⟨ds, h1, rfl⟩ := Option.map_eq_some_iff.mp e1
        obtain ⟨p, ys, rfl, z, hs⟩ := seq_of ok r1 h1
        rcases hs with hs | hs
        · exact .inl ⟨ys, hs, z.length⟩
        · exact .inr ⟨ys, hs, z.length⟩
  · cases hg
/-- list(row), to stay and to be changed -/
def listG : GC := fun ds st => match ds with | [d] => (seqB st d).map fun es => (.lst es, st) | _ => none
def listGC : GC := fun ds st => match ds with | [d] => (seqB st d).map fun es => (.cell st.length, st ++ [.lst es]) | _ => none
def tupG : GC := fun ds st => match ds with | [d] => (seqB st d).map fun es => (.tup es, st) | _ => none
theorem call_listD : CallD X (.type "list") listG := by
  intro pins s σ H xs us Q I rv ⟨W, ds, d, st, e, ok, r, hg, q⟩
  subst e
  unfold listG at hg
  split at hg
  · obtain ⟨v, rfl, r1⟩ := r.one
    obtain ⟨es, h1, h2⟩ := Option.map_eq_some_iff.mp hg
    cases h2
    obtain ⟨p, ys, rfl, z, hs⟩ := seq_of ok r1 h1
    exact call_list_of pins s σ _ _ us Q I rv ⟨p, ys, rfl, hs, fun l hp => q (W.lay l _) _ rfl (lay_ok ok hp _) (lay_ext ok hp _) (lay_lst ok hp z)⟩
  · cases hg
theorem call_listDC : CallD X (.type "list") listGC := by
  intro pins s σ H xs us Q I rv ⟨W, ds, d, st, e, ok, r, hg, q⟩
  subst e
  unfold listGC at hg
  split at hg
  · obtain ⟨v, rfl, r1⟩ := r.one
    obtain ⟨es, h1, h2⟩ := Option.map_eq_some_iff.mp hg
    cases h2
    obtain ⟨p, ys, rfl, z, hs⟩ := seq_of ok r1 h1
    exact call_list_of pins s σ _ _ us Q I rv ⟨p, ys, rfl, hs, fun l hp => q (W.cel l (.lst ys) (.lst es)) _ rfl (cel_lst_ok ok hp z) (cel_ext ok hp _ _) (cel_rep ok)⟩
  · cases hg
theorem call_tupD : CallD X (.type "tuple") tupG := by
  intro pins s σ H xs us Q I rv ⟨W, ds, d, st, e, ok, r, hg, q⟩
  subst e
  unfold tupG at hg
  split at hg
  · rename_i d0
    obtain ⟨v, rfl, r1⟩ := r.one
    obtain ⟨es, h1, h2⟩ := Option.map_eq_some_iff.mp hg
    cases h2
    cases d0 with
    | tup es' =>
      cases h1
      have r0 := r1
      obtain ⟨a1, xs1, rfl, h1, q1⟩ := r1.tup_inv
      exact call_tuple_of pins s σ _ _ us Q I rv ⟨a1, xs1, rfl, .inr ⟨h1.sq, q W _ rfl ok (Ext.refl _) r0⟩⟩
    | scr ns =>
      cases h1
      unfold Rep at r1
      obtain ⟨a, rfl, z⟩ := r1
      exact call_tuple_of pins s σ _ _ us Q I rv ⟨a, _, rfl, .inl ⟨z.sq, fun l hp => q (W.lay l _) _ rfl (lay_ok ok hp _) (lay_ext ok hp _) (lay_tup ok hp (RepL.of_ints ns))⟩⟩
    | lst es' =>
      cases h1
      obtain ⟨p, ys, rfl, z, hs⟩ := lists_of ok r1 rfl
      exact call_tuple_of pins s σ _ _ us Q I rv ⟨p, ys, rfl, .inl ⟨SqL.of hs, fun l hp => q (W.lay l _) _ rfl (lay_ok ok hp _) (lay_ext ok hp _) (lay_tup ok hp z)⟩⟩
    | cell n =>
      have e4 : (match deref W.st (.cell n) with | .lst ds => some ds | .tup ds => some ds | _ => none) = some es := h1
      cases e5 : deref W.st (.cell n) with
      | lst ds =>
        rw [e5] at e4
        cases e4
        obtain ⟨p, ys, rfl, z, hs⟩ := lists_of ok r1 e5
        exact call_tuple_of pins s σ _ _ us Q I rv ⟨p, ys, rfl, .inl ⟨SqL.of hs, fun l hp => q (W.lay l _) _ rfl (lay_ok ok hp _) (lay_ext ok hp _) (lay_tup ok hp z)⟩⟩
      | tup ds =>
        rw [deref_cell] at e5
        cases e6 : W.st[n]? with
        | none => rw [e6] at e5; cases e5
        | some c => cases c <;> (rw [e6] at e5; cases e5)
      | _ => rw [e5] at e4; cases e4
    | _ => cases h1
  · cases hg
/-- int(number or truth) -/
def intG : GC := fun ds st => match ds with | [.int i] => some (.int i, st) | [.bl b] => some (.int (if b = true then 1 else 0), st) | _ => none
theorem call_intD : CallD X (.type "int") intG := by
  intro pins s σ H xs us Q I rv ⟨W, ds, d, st, e, ok, r, hg, q⟩
  subst e
  unfold intG at hg
  split at hg
  · obtain ⟨v, rfl, r1⟩ := r.one
    cases hg
    exact call_int1 pins s σ _ _ us Q I rv (.inl ⟨_, by rw [r1.int_inv], q W _ rfl ok (Ext.refl _) (.int _)⟩)
  · obtain ⟨v, rfl, r1⟩ := r.one
    cases hg
    exact call_int1 pins s σ _ _ us Q I rv (.inr ⟨_, by rw [r1.bl_inv], q W _ rfl ok (Ext.refl _) (.int _)⟩)
  · cases hg
/-- str(number), str(text) -/
def strG : GC := fun ds st => match ds with | [.int i] => if i.natAbs.log2 < 1920 then some (.str (toString i), st) else none | [.str x] => some (.str x, st) | [.bl b] => some (.str (if b then "True" else "False"), st) | _ => none
theorem call_strD : CallD X (.type "str") strG := by
  intro pins s σ H xs us Q I rv ⟨W, ds, d, st, e, ok, r, hg, q⟩
  subst e
  unfold strG at hg
  split at hg
  · rename_i i
    obtain ⟨v, rfl, r1⟩ := r.one
    by_cases c : i.natAbs.log2 < 1920
    · rw [if_pos c] at hg
      cases hg
      exact call_str_int pins s σ _ _ us Q I rv ⟨_, by rw [r1.int_inv], c, q W _ rfl ok (Ext.refl _) (.str _)⟩
    · rw [if_neg c] at hg; cases hg
  · obtain ⟨v, rfl, r1⟩ := r.one
    cases hg
    exact SkE.call_str_str pins s σ _ _ us Q I rv ⟨_, by rw [r1.str_inv], q W _ rfl ok (Ext.refl _) (.str _)⟩
  · obtain ⟨v, rfl, r1⟩ := r.one
    cases hg
    obtain ⟨u, rfl, ru⟩ := rv.one
    rw [r1.bl_inv] at ru
    cases ru
    exact PySem.P.str_of_bool ⟨.str _, W.H, I.tok _, ⟨_, rfl⟩, q W _ rfl ok (Ext.refl _) (.str _)⟩
  · cases hg
def intsD : List D → Option (List Int)
  | [] => some []
  | .int i :: r => (intsD r).map (i :: ·)
  | _ => none
theorem intsD_eq : ∀ {ds : List D} {ns : List Int}, intsD ds = some ns → ds = ns.map .int
  | [], _, h => by cases h; rfl
  | .int i :: r, _, h => by
    obtain ⟨ns, h1, rfl⟩ := Option.map_eq_some_iff.mp (show (intsD r).map (i :: ·) = some _ from h)
    rw [List.map_cons, ← intsD_eq h1]
  | .non :: _, _, h => by cases h
  | .bl _ :: _, _, h => by cases h
  | .str _ :: _, _, h => by cases h
  | .tup _ :: _, _, h => by cases h
  | .lst _ :: _, _, h => by cases h
  | .dct _ _ :: _, _, h => by cases h
  | .cell _ :: _, _, h => by cases h
  | .glob _ :: _, _, h => by cases h
  | .scr _ :: _, _, h => by cases h
  | .exc _ _ _ :: _, _, h => by cases h
def lstB (st : Sto) (d : D) : Option (List D) := match deref st d with | .lst ds => some ds | _ => none
theorem lstB_eq {st : Sto} {d : D} {ds : List D} (h : lstB st d = some ds) : deref st d = .lst ds := by
  unfold lstB at h
  split at h
  · rename_i e; cases h; exact e
  · cases h
def sumG : GC := fun ds st => match ds with | [d] => ((lstB st d).bind intsD).map fun ns => (.int ns.sum, st) | _ => none
theorem call_sumD (hc : X.calm = true) : CallD X (.builtin "sum") sumG := by
  intro pins s σ H xs us Q I rv ⟨W, ds, d, st, e, ok, r, hg, q⟩
  subst e
  unfold sumG at hg
  split at hg
  · obtain ⟨v, rfl, r1⟩ := r.one
    obtain ⟨ns, h1, h2⟩ := Option.map_eq_some_iff.mp hg
    obtain ⟨es, h3, h4⟩ := Option.bind_eq_some_iff.mp h1
    cases h2
    obtain ⟨p, ys, rfl, z, hs⟩ := lists_of ok r1 (lstB_eq h3)
    rw [intsD_eq h4] at z
    rw [z.ints] at hs
    exact cr_sum hc pins s σ _ _ us Q I rv ⟨p, ns, rfl, SqL.of hs, q W _ rfl ok (Ext.refl _) (.int _)⟩
  · cases hg
/-- min, max of two numbers -/
def minG : GC := fun ds st => match ds with | [.int i, .int j] => some (.int (if j < i then j else i), st) | _ => none
def maxG : GC := fun ds st => match ds with | [.int i, .int j] => some (.int (if j > i then j else i), st) | _ => none
theorem call_minD (hc : X.calm = true) : CallD X (.builtin "min") minG := by
  intro pins s σ H xs us Q I rv ⟨W, ds, d, st, e, ok, r, hg, q⟩
  subst e
  unfold minG at hg
  split at hg
  · obtain ⟨v, u, rfl, r1, r2⟩ := r.two
    cases hg
    rw [r1.int_inv, r2.int_inv] at rv
    exact call_min2 hc pins s σ _ _ us Q I rv ⟨_, _, rfl, q W _ rfl ok (Ext.refl _) (.int _)⟩
  · cases hg
theorem call_maxD (hc : X.calm = true) : CallD X (.builtin "max") maxG := by
  intro pins s σ H xs us Q I rv ⟨W, ds, d, st, e, ok, r, hg, q⟩
  subst e
  unfold maxG at hg
  split at hg
  · obtain ⟨v, u, rfl, r1, r2⟩ := r.two
    cases hg
    rw [r1.int_inv, r2.int_inv] at rv
    exact call_max2 hc pins s σ _ _ us Q I rv ⟨_, _, rfl, q W _ rfl ok (Ext.refl _) (.int _)⟩
  · cases hg

/-! ## isinstance -/
def tyN (st : Sto) : D → Option String
  | .non => some "NoneType" | .bl _ => some "bool" | .int _ => some "int" | .str _ => some "str" | .tup _ => some "tuple" | .lst _ => some "list" | .dct _ _ => some "dict" | .scr _ => some "list" | .glob _ => none | .exc _ _ _ => none
  | .cell n => match st[n]? with | some (.lst _) => some "list" | some (.dct _ _) => some "dict" | _ => none
theorem tyN_of {W : Wd} {d : D} {v : V} {T : String} (ok : WOk (cn X) W) (r : Rep (cn X) W d v) (h : tyN W.st d = some T) : TyX X.K W.H v (.type T) := by
  cases d with
  | non => cases h; rw [r.non_inv]; exact .base .non
  | bl b => cases h; rw [r.bl_inv]; exact .base (.bl b)
  | int b => cases h; rw [r.int_inv]; exact .base (.int b)
  | str b => cases h; rw [r.str_inv]; exact .base (.str b)
  | tup ds =>
    cases h
    obtain ⟨a, xs, rfl, q, z⟩ := r.tup_inv
    rcases q with ⟨q, _⟩ | ⟨o, its, n, h1, h2, _⟩
    · rcases q with q | ⟨o, q⟩
      · exact .base (.tup q)
      · exact .fTuple q
    · exact .kTuple h1 h2
  | lst ds =>
    cases h
    obtain ⟨a, xs, rfl, q, z⟩ := r.lst_inv
    exact .base (.lst q.1)
  | dct ks ds =>
    cases h
    unfold Rep at r
    obtain ⟨a, xs, rfl, q, _⟩ := r
    exact .base (.dK q)
  | scr ns =>
    cases h
    unfold Rep at r
    obtain ⟨a, rfl, q⟩ := r
    rcases q with ⟨q, _⟩ | ⟨o, its, n, h1, h2, _⟩
    · rcases q with q | ⟨o, q⟩
      · exact .base (.lst q)
      · exact .base (.frz q)
    · exact .kList h1 h2
  | glob x => cases h
  | exc c ks ds => cases h
  | cell n =>
    have h : (match W.st[n]? with | some (.lst _) => some "list" | some (.dct _ _) => some "dict" | _ => none) = some T := h
    cases e : W.st[n]? with
    | none => rw [e] at h; cases h
    | some c =>
      cases c with
      | lst es =>
        rw [e] at h; cases h
        obtain ⟨a, xs, rfl, _, hH, z⟩ := cell_lst ok r e
        exact .base (.lst hH)
      | dct ks es =>
        rw [e] at h; cases h
        obtain ⟨a, xs, rfl, _, hH, z⟩ := cell_dct ok r e
        exact .base (.dK hH)
      | _ => rw [e] at h; cases h
def isiB (T : String) (d : D) (st : Sto) : Option D := (tyN st d).bind fun t => (kitB t T).map .bl
theorem pd_isi {T : String} {x : Str} {e : Expr} {m : EM} {p p2 pos : Pos} (he : PD X Wx e m) (hm : X.mg "isinstance" = none) (hm2 : X.mg x = none) (hg : Gl X "isinstance" := by rfl) (hg2 : Gl X x := by rfl) (hv : bootBuiltins x = some (.type T) := by rfl) (hn : x ≠ "__name__" := by decide) (hdb : (x == ("__debug__" : Str)) = false := by decide)
    (hs : starEach [e, .Name x p2] X.env = (false, eval e X.env) :: starEach [.Name x p2] X.env := by rfl) (hs2 : starEach [.Name x p2] X.env = (false, eval (.Name x p2) X.env) :: starEach [] X.env := by rfl) (hpl : (backTo pos (starEach [.Name x p2] X.env)).any (·.1) = false := by rfl) :
    PD X Wx (.Call (.Name "isinstance" p) [e, .Name x p2] [] pos) (mUn (isiB T) m) :=
  ⟨PE.weak (pe_callB call_isi hg hm rfl (pa_cons he.pe (pa_cons (pe_bltn (v := .ty T) hg2 hm2 hv rfl hn hdb) pa_nil hs2) hs) (by decide) (by decide) hs hpl) fun σ H Q ⟨W, en, e, ok, er, q⟩ => by
    subst e
    refine seqE ok er q fun d W1 v ok1 e1 er1 r1 q1 => ?_
    cases e4 : isiB T d W1.st with
    | none => rw [e4] at q1; exact q1.elim
    | some d' =>
      rw [e4] at q1
      unfold isiB at e4
      obtain ⟨t, h1, h2⟩ := Option.bind_eq_some_iff.mp e4
      obtain ⟨b, h3, rfl⟩ := Option.map_eq_some_iff.mp h2
      exact ⟨v, .ty T, _, _, b, rfl, .ty T, tyN_of ok1 r1 h1, kit_ty h3, q1 W1 _ rfl ok1 (Ext.refl _) (.bl b)⟩⟩

/-! ## methods -/
abbrev GM2 := D → List D → Sto → Option (D × Sto)
def rDM (C : Cn) (g : GM2) : V → List V → Hp → VK → Prop := fun x xs H Q => ∃ W o ds d st, W.H = H ∧ WOk C W ∧ Rep C W o x ∧ RepL C W ds xs ∧ g o ds W.st = some (d, st) ∧ ∀ W' v, W'.st = st → WOk C W' → Ext W W' → Rep C W' d v → Q v W'.H
def MtD (X : Cx) (id : String) (g : GM2) : Prop := MtR X id (rDM (cn X) g)
/-- the receiver is of the kind -/
def tyM (T : String) (st : Sto) (d : D) : Bool := match d with
  | .str _ => decide (T = "str")
  | .int _ => decide (T = "int")
  | .lst _ => decide (T = "list")
  | .dct _ _ => decide (T = "dict")
  | .cell n => match st[n]? with | some (.lst _) => decide (T = "list") | some (.dct _ _) => decide (T = "dict") | _ => false
  | _ => false
theorem tyM_of {W : Wd} {d : D} {v : V} {T : String} (ok : WOk (cn X) W) (r : Rep (cn X) W d v) (h : tyM T W.st d = true) : tyV X.K T v W.H := by
  cases d with
  | str b => rw [r.str_inv]; exact (of_decide_eq_true h : T = "str")
  | int b => rw [r.int_inv]; exact (of_decide_eq_true h : T = "int")
  | lst ds =>
    obtain ⟨a, xs, rfl, q, z⟩ := r.lst_inv
    exact .inl ⟨of_decide_eq_true h, xs, SqL.of q.1⟩
  | dct ks ds =>
    unfold Rep at r
    obtain ⟨a, xs, rfl, q, _⟩ := r
    exact .inr (.inr (.inl ⟨of_decide_eq_true h, .inl ⟨_, q⟩⟩))
  | cell n =>
    have h : (match W.st[n]? with | some (.lst _) => decide (T = "list") | some (.dct _ _) => decide (T = "dict") | _ => false) = true := h
    cases e : W.st[n]? with
    | none => rw [e] at h; cases h
    | some c =>
      cases c with
      | lst es =>
        rw [e] at h
        obtain ⟨a, xs, rfl, _, hH, z⟩ := cell_lst ok r e
        exact .inl ⟨of_decide_eq_true h, xs, SqL.of hH⟩
      | dct ks es =>
        rw [e] at h
        obtain ⟨a, xs, rfl, _, hH, z⟩ := cell_dct ok r e
        exact .inr (.inr (.inl ⟨of_decide_eq_true h, .inl ⟨_, hH⟩⟩))
      | _ => rw [e] at h; cases h
  | _ => cases h
def mMt (T : String) (g : GM2) (mo : EM) (lm : LM) : EM := fun en st => mb (mo en st) fun o st => if tyM T st o = true then mb (lm en st) fun ds st => lift2 (g o ds st) else .bad
theorem pd_mt {T id : String} {name : Str} {g : GM2} {o e : Expr} {es : List Expr} {mo : EM} {lm : LM} {apos cpos : Pos} (hm : MtD X id g) (pa : PlainAttrs T) (slot : Slot T name id) (hty : typeOf (.builtin id) = pure (.type "method_descriptor")) (ho : PD X Wx o mo) (ha : PDA X Wx (e :: es) lm)
    (hbase : attributeBase o name X.env (eval o X.env) = eval o X.env := by rfl)
    (hsh : ((backTo cpos (starEach (e :: es) X.env)).all (fun x => !x.1) && (backToKw cpos (keywordEach [] X.env)).all (fun x => x.1.isSome)
      && decide ((e :: es).length + ([] : List Keyword).length + (if ([] : List Keyword).isEmpty then 0 else 1) < 30)) = true := by rfl)
    (hline : (apos.endLine == cpos.line) = true := by rfl) (hs : starEach (e :: es) X.env = (false, eval e X.env) :: starEach es X.env := by rfl) (hplain : (backTo cpos (starEach es X.env)).any (·.1) = false := by rfl) :
    PD X Wx (.Call (.Attribute o name apos) (e :: es) [] cpos) (mMt T g mo lm) :=
  ⟨PE.weak (pe_bm pa slot hty hm ho.pe ha.pa hbase hsh hline hs hplain) fun σ H Q ⟨W, en, e, ok, er, q⟩ => by
    subst e
    refine seqE ok er q fun d W1 v ok1 e1 er1 r1 q1 => ?_
    by_cases c : tyM T W1.st d = true
    · rw [if_pos c] at q1
      refine ⟨tyM_of ok1 r1 c, ?_⟩
      refine seqLE ok1 er1 q1 fun ds W2 vs ok2 e2 er2 r2 q2 => ?_
      cases e4 : g d ds W2.st with
      | none => rw [e4] at q2; exact q2.elim
      | some z =>
        obtain ⟨d', st⟩ := z
        rw [e4] at q2
        exact ⟨W2, d, ds, d', st, rfl, ok2, r1.ext e2, r2, e4, q2⟩
    · rw [if_neg c] at q1; exact q1.elim⟩
theorem pd_mt0 {T id : String} {name : Str} {g : GM2} {o : Expr} {mo : EM} {apos cpos : Pos} (hm : MtD X id g) (pa : PlainAttrs T) (slot : Slot T name id) (hty : typeOf (.builtin id) = pure (.type "method_descriptor")) (ho : PD X Wx o mo)
    (hbase : attributeBase o name X.env (eval o X.env) = eval o X.env := by rfl) (hline : (apos.endLine == cpos.line) = true := by rfl) : PD X Wx (.Call (.Attribute o name apos) [] [] cpos) (mMt T g mo lNil) :=
  ⟨PE.weak (pe_bm0 pa slot hty hm ho.pe hbase hline) fun σ H Q ⟨W, en, e, ok, er, q⟩ => by
    subst e
    refine seqE ok er q fun d W1 v ok1 e1 er1 r1 q1 => ?_
    by_cases c : tyM T W1.st d = true
    · rw [if_pos c] at q1
      refine ⟨tyM_of ok1 r1 c, ?_⟩
      have q1 : PostE (cn X) Wx W1 σ Q (lift2 (g d [] W1.st)) := q1
      cases e4 : g d [] W1.st with
      | none => rw [e4] at q1; exact q1.elim
      | some z =>
        obtain ⟨d', st⟩ := z
        rw [e4] at q1
        exact ⟨W1, d, [], d', st, rfl, ok1, r1, RepL.nil, e4, q1⟩
    · rw [if_neg c] at q1; exact q1.elim⟩
def appendG : GM2 := fun o ds st => match o, ds with
  | .cell n, [d] => (match st[n]? with | some (.lst es) => if es.length < sizeLine then some (.non, st.set n (.lst (es ++ [d]))) else none | _ => none)
  | _, _ => none
theorem mt_appendD : MtD X "list.append" appendG := by
  intro pins s σ H x xs v us Q I rx rv ⟨W, o, ds, d, st, e, ok, ro, rd, hg, q⟩
  subst e
  unfold appendG at hg
  split at hg
  · rename_i n d0
    obtain ⟨y, rfl, r1⟩ := rd.one
    split at hg
    · rename_i es e1
      by_cases c : es.length < sizeLine
      · rw [if_pos c] at hg
        cases hg
        obtain ⟨a, ys, rfl, ha, hH, z⟩ := cell_lst ok ro e1
        exact mt_append pins s σ _ _ _ v us Q I rx rv ⟨a, ys, y, rfl, rfl, hH, by rw [← z.length]; exact c, q (W.put n a (.lst (ys ++ [y])) (.lst (es ++ [d0]))) .non rfl (put_lst_ok ok ha e1 rfl (z.append (.cons r1 .nil))) (put_ext ok ha e1 rfl _ _) .non⟩
      · rw [if_neg c] at hg; cases hg
    · cases hg
  · cases hg
def popG : GM2 := fun o ds st => match o, ds with
  | .cell n, [] => (match st[n]? with | some (.lst es) => (es[es.length - 1]?).map fun d => (d, st.set n (.lst es.dropLast)) | _ => none)
  | _, _ => none
theorem mt_popD : MtD X "list.pop" popG := by
  intro pins s σ H x xs v us Q I rx rv ⟨W, o, ds, d, st, e, ok, ro, rd, hg, q⟩
  subst e
  unfold popG at hg
  split at hg
  · rename_i n
    obtain rfl := rd.nil_inv
    split at hg
    · rename_i es e1
      obtain ⟨d0, h1, h2⟩ := Option.map_eq_some_iff.mp hg
      cases h2
      obtain ⟨a, ys, rfl, ha, hH, z⟩ := cell_lst ok ro e1
      rw [z.length] at h1
      obtain ⟨y, h3, h4⟩ := z.get h1
      have ee := put_ext ok ha e1 rfl (.lst ys.dropLast) (.lst es.dropLast)
      exact mt_pop pins s σ _ _ _ v us Q I rx rv ⟨a, ys, y, rfl, rfl, hH, h3, q (W.put n a (.lst ys.dropLast) (.lst es.dropLast)) y rfl (put_lst_ok ok ha e1 rfl z.dropLast) ee (h4.ext ee)⟩
    · cases hg
  · cases hg
def strsD : List D → Option (List Str)
  | [] => some []
  | .str i :: r => (strsD r).map (i :: ·)
  | _ => none
theorem strsD_eq : ∀ {ds : List D} {ns : List Str}, strsD ds = some ns → ds = ns.map .str
  | [], _, h => by cases h; rfl
  | .str i :: r, _, h => by
    obtain ⟨ns, h1, rfl⟩ := Option.map_eq_some_iff.mp (show (strsD r).map (i :: ·) = some _ from h)
    rw [List.map_cons, ← strsD_eq h1]
  | .non :: _, _, h => by cases h
  | .bl _ :: _, _, h => by cases h
  | .int _ :: _, _, h => by cases h
  | .tup _ :: _, _, h => by cases h
  | .lst _ :: _, _, h => by cases h
  | .dct _ _ :: _, _, h => by cases h
  | .cell _ :: _, _, h => by cases h
  | .glob _ :: _, _, h => by cases h
  | .scr _ :: _, _, h => by cases h
  | .exc _ _ _ :: _, _, h => by cases h
def joinG : GM2 := fun o ds st => match o, ds with
  | .str a, [d] => ((seqB st d).bind strsD).bind fun ys => if (ys.map (·.length)).sum + ys.length * a.length ≤ 16777216 then some (.str (Txt.join a ys), st) else none
  | _, _ => none
theorem mt_joinD : MtD X "str.join" joinG := by
  intro pins s σ H x xs v us Q I rx rv ⟨W, o, ds, d, st, e, ok, ro, rd, hg, q⟩
  subst e
  unfold joinG at hg
  split at hg
  · rename_i a d0
    obtain ⟨y, rfl, r1⟩ := rd.one
    obtain ⟨ys, h1, h2⟩ := Option.bind_eq_some_iff.mp hg
    obtain ⟨es, h3, h4⟩ := Option.bind_eq_some_iff.mp h1
    by_cases c : (ys.map (·.length)).sum + ys.length * a.length ≤ 16777216
    · rw [if_pos c] at h2
      cases h2
      obtain ⟨p, zs, rfl, z, hs⟩ := seq_of ok r1 h3
      rw [strsD_eq h4] at z
      rw [z.strs] at hs
      exact mt_join pins s σ _ _ _ v us Q I rx rv ⟨a, p, ys, ro.str_inv, rfl, hs, c, q W _ rfl ok (Ext.refl _) (.str _)⟩
    · rw [if_neg c] at h2; cases h2
  · cases hg
def splitG : GM2 := fun o ds st => match o, ds with
  | .str a, [.str b] => if (b.length == 0) = false ∧ a.length + 2 ≤ sizeLine then some (.lst ((Txt.split a b).map .str), st) else none
  | _, _ => none
theorem mt_splitD : MtD X "str.split" splitG := by
  intro pins s σ H x xs v us Q I rx rv ⟨W, o, ds, d, st, e, ok, ro, rd, hg, q⟩
  subst e
  unfold splitG at hg
  split at hg
  · rename_i a b
    obtain ⟨y, rfl, r1⟩ := rd.one
    by_cases c : (b.length == 0) = false ∧ a.length + 2 ≤ sizeLine
    · rw [if_pos c] at hg
      cases hg
      exact mt_split pins s σ _ _ _ v us Q I rx rv ⟨a, b, ro.str_inv, by rw [r1.str_inv], c.1, c.2, fun p hp => q (W.lay p _) _ rfl (lay_ok ok hp _) (lay_ext ok hp _) (lay_lst ok hp (RepL.of_strs _))⟩
    · rw [if_neg c] at hg; cases hg
  · cases hg
def upperG : GM2 := fun o ds st => match o, ds with
  | .str a, [] => if a.length ≤ 5592405 then some (.str (Txt.upper a), st) else none
  | _, _ => none
theorem mt_upperD : MtD X "str.upper" upperG := by
  intro pins s σ H x xs v us Q I rx rv ⟨W, o, ds, d, st, e, ok, ro, rd, hg, q⟩
  subst e
  unfold upperG at hg
  split at hg
  · rename_i a
    by_cases c : a.length ≤ 5592405
    · rw [if_pos c] at hg
      cases hg
      exact mt_upper pins s σ _ _ _ v us Q I rx rv ⟨a, ro.str_inv, rd.nil_inv, c, q W _ rfl ok (Ext.refl _) (.str _)⟩
    · rw [if_neg c] at hg; cases hg
  · cases hg
def countG : GM2 := fun o ds st => match o, ds with
  | .str a, [.str b] => some (.int (Txt.count a b), st)
  | _, _ => none
theorem mt_countD : MtD X "str.count" countG := by
  intro pins s σ H x xs v us Q I rx rv ⟨W, o, ds, d, st, e, ok, ro, rd, hg, q⟩
  subst e
  unfold countG at hg
  split at hg
  · rename_i a b
    obtain ⟨y, rfl, r1⟩ := rd.one
    cases hg
    exact mt_count pins s σ _ _ _ v us Q I rx rv ⟨a, b, ro.str_inv, by rw [r1.str_inv], q W _ rfl ok (Ext.refl _) (.int _)⟩
  · cases hg
end
end Pd

namespace Pd
open PySem PySem.Spec L2
open PyProof.Rows hiding St
variable [Codes]
/-! ## repr -/
def reprB (d : D) : Option Str := if pur d = true ∧ (py d).showable = true ∧ (py d).shown.length ≤ sizeLine ∧ (py d).depth ≤ 150 then some (py d).shown else none
def frz (st : Sto) : D → D
  | .cell n => match st[n]? with | some (.lst ds) => .lst ds | some (.dct ks ds) => .dct ks ds | _ => .cell n
  | d => d
section
variable {X : Cx} {k : Nat} {Wx : WX} {pins : List (Addr × Obj)} {σ : St} {W : Wd} {s : Shared}
/-- of an object, by what it holds -/
theorem shows_tup (I : Inv X pins σ W.H s) {ds : List D} {a : Addr} {xs : List V} (as0 : List Addr) (rd : Reads s.heap (.ref a) (py (.tup ds)) as0) (ht : SqT X.K W.H a xs) (hr : RepL (cn X) W ds xs) (p : purL ds = true) (hs : (py (.tup ds)).showable = true) (hz : (py (.tup ds)).shown.length ≤ sizeLine)
    {A : Around} {E : Value → Shared → Prop} {Q : Value → Shared → Prop} (hg : A.guards = some []) (hu : A.units + ((py (.tup ds)).depth + 1) < cLine)
    (hQ : ∀ h' u tk, (∀ b o, s.heap.get? b = some o → h'.get? b = some o) → Q (.str (py (.tup ds)).shown u) { s with heap := h', toks := tk }) : wpAny (model X.prog X.w) A (call (.builtin "repr") [.ref a]) Q E s := by
  obtain ⟨its, rv, ⟨o, ho, hc, n, hd⟩, _⟩ := I.tuple ht
  simp only [py, PyData.shown] at hz hQ
  simp only [py, PyData.showable] at hs
  simp only [py, PyData.depth] at hu
  obtain ⟨bs, hb, hk⟩ := RepL.shows I hr p rv hs fun t z => Nat.le_trans (tupleText_mem_le z) hz
  have out : a ∉ bs := not_mem_of_deeper rd (by simp only [py, PyData.depth]; omega) hb
  exact call_repr_slot (by omega) ⟨o, ho, hc⟩ F.slot_tuple_repr (call_tuple_reprK ho hc hd out (by simpa using hk) hg (fun b _ => Clear.nil b) (by show A.units + 1 + _ < cLine; omega) (fun _ _ e => e) (fun h' u tk hk => ⟨_, _, rfl, hQ h' u tk hk⟩) hz)
theorem shows_lst (I : Inv X pins σ W.H s) {ds : List D} {a : Addr} {xs : List V} (as0 : List Addr) (rd : Reads s.heap (.ref a) (py (.lst ds)) as0) (ht : SqL X.K W.H a xs) (hr : RepL (cn X) W ds xs) (p : purL ds = true) (hs : (py (.lst ds)).showable = true) (hz : (py (.lst ds)).shown.length ≤ sizeLine)
    {A : Around} {E : Value → Shared → Prop} {Q : Value → Shared → Prop} (hg : A.guards = some []) (hu : A.units + ((py (.lst ds)).depth + 1) < cLine)
    (hQ : ∀ h' u tk, (∀ b o, s.heap.get? b = some o → h'.get? b = some o) → Q (.str (py (.lst ds)).shown u) { s with heap := h', toks := tk }) : wpAny (model X.prog X.w) A (call (.builtin "repr") [.ref a]) Q E s := by
  obtain ⟨its, rv, ⟨o, n, ho, hc, _, hd⟩, _⟩ := I.list ht
  simp only [py, PyData.shown] at hz hQ
  simp only [py, PyData.showable] at hs
  simp only [py, PyData.depth] at hu
  obtain ⟨bs, hb, hk⟩ := RepL.shows I hr p rv hs fun t z => Nat.le_trans (listText_mem_le z) hz
  have out : a ∉ bs := not_mem_of_deeper rd (by simp only [py, PyData.depth]; omega) hb
  refine call_repr_slot (by omega) ⟨o, ho, hc⟩ F.slot_list_repr.toG ?_
  cases its with
  | nil =>
    cases rv
    obtain rfl : ds = [] := List.eq_nil_of_length_eq_zero hr.length
    simp only [pyL, PyData.shownAll, listText_nil] at hQ
    exact call_list_repr_empty ⟨o, ho, hc⟩ ho hd ⟨_, _, rfl, hQ s.heap _ _ fun _ _ e => e⟩
  | cons x l =>
    exact call_list_reprK ho hc hd out (by simpa using hk.length_eq) (fun i y e => hk.item i y (by simpa using e)) hg (fun b _ => Clear.nil b) (by show A.units + 1 + _ < cLine; omega) (fun _ _ e => e) (fun h' u tk hk => ⟨_, _, rfl, hQ h' u tk hk⟩) hz
theorem shows_dct (I : Inv X pins σ W.H s) {ks : List Key} {ds : List D} {a : Addr} {xs : List V} (as0 : List Addr) (rd : Reads s.heap (.ref a) (py (.dct ks ds)) as0) (hH : W.H a = some (.dK (ks.zip xs))) (hl : ks.length = xs.length) (hr : RepL (cn X) W ds xs) (p : purL ds = true) (hs : (py (.dct ks ds)).showable = true) (hz : (py (.dct ks ds)).shown.length ≤ sizeLine)
    {A : Around} {E : Value → Shared → Prop} {Q : Value → Shared → Prop} (hg : A.guards = some []) (hu : A.units + ((py (.dct ks ds)).depth + 1) < cLine)
    (hQ : ∀ h' u tk, (∀ b o, s.heap.get? b = some o → h'.get? b = some o) → Q (.str (py (.dct ks ds)).shown u) { s with heap := h', toks := tk }) : wpAny (model X.prog X.w) A (call (.builtin "repr") [.ref a]) Q E s := by
  obtain ⟨hsys, o, es, ep, ks', ho, hx, hd, hv, hk⟩ := dct_obj I hH hl
  have l2 : (ks.map keyPy).length = (pyL ds).length := by rw [List.length_map, pyL_length, hl, hr.length]
  simp only [py, PyData.shown] at hz hQ
  simp only [py, PyData.showable] at hs
  simp only [py, PyData.depth] at hu
  obtain ⟨s1, s2⟩ := PyData.showableKv_split _ hs
  rw [zip_fst l2] at s1
  rw [zip_snd l2] at s2
  obtain ⟨b1, hb1, k1⟩ := keys_show (X := X) (pins := pins) (σ := σ) (W := W) (s := s) (P := X.prog) (w := X.w) (ks := ks) hk s1 fun t z => by
    obtain ⟨q, hq, le⟩ := PyData.shownKv_key_le ((ks.map keyPy).zip (pyL ds)) t (by rw [zip_fst l2]; exact z)
    exact Nat.le_trans le (Nat.le_trans (dictText_mem_le hq) hz)
  obtain ⟨b2, hb2, k2⟩ := RepL.shows I hr p hv s2 fun t z => by
    obtain ⟨q, hq, le⟩ := PyData.shownKv_val_le ((ks.map keyPy).zip (pyL ds)) t (by rw [zip_snd l2]; exact z)
    exact Nat.le_trans le (Nat.le_trans (dictText_mem_le hq) hz)
  have d1 := PyData.depthAll_keys_le ((ks.map keyPy).zip (pyL ds))
  have d2 := PyData.depthAll_vals_le ((ks.map keyPy).zip (pyL ds))
  rw [zip_fst l2] at d1
  rw [zip_snd l2] at d2
  have hb := atMost_both hb1 hb2 d1 d2
  have out : a ∉ b1 ++ b2 := not_mem_of_deeper rd (by simp only [py, PyData.depth]; omega) hb
  rw [PyData.shownKv_eq, zip_fst l2, zip_snd l2] at hz hQ
  exact call_repr_slot (by omega) ⟨o, ho, hx.1⟩ F.slot_dict_repr (call_dict_reprK ho hx.1 hd hsys out (.of_two es.toList _ _ (k1.more_le (fun b z => List.mem_append_left _ z) d1) (k2.more_le (fun b z => List.mem_append_right _ z) d2)) hg (fun b _ => Clear.nil b) (by show A.units + 1 + _ < cLine; omega) (fun _ _ e => e) (fun h' u tk hk => ⟨_, _, rfl, hQ h' u tk hk⟩) hz)
def reprG : GC := fun ds st => match ds with | [d] => (reprB (frz st d)).map fun x => (.str x, st) | _ => none
theorem call_reprD (b : RG k X.A) : CallD X (.builtin "repr") reprG := by
  intro pins s σ H xs us Q I rv ⟨W, ds, d, st, e, ok, r, hg, q⟩
  subst e
  unfold reprG at hg
  split at hg
  · rename_i d0
    obtain ⟨v, rfl, r1⟩ := r.one
    obtain ⟨x, h1, h2⟩ := Option.map_eq_some_iff.mp hg
    cases h2
    obtain ⟨u, rfl, ru⟩ := rv.one
    unfold reprB at h1
    by_cases c : pur (frz W.st d0) = true ∧ (py (frz W.st d0)).showable = true ∧ (py (frz W.st d0)).shown.length ≤ sizeLine ∧ (py (frz W.st d0)).depth ≤ 150
    · rw [if_pos c] at h1
      cases h1
      obtain ⟨c1, c2, c3, c4⟩ := c
      have hu : ∀ n, n ≤ 150 → X.A.units + (n + 1) < cLine := fun n hn => by have := b.rm.un; omega
      have fin : ∀ {x : Str} (h' : Heap) (u : Tok) (tk : Nat), (∀ b o, s.heap.get? b = some o → h'.get? b = some o) → x = (py (frz W.st d0)).shown → EP X pins σ Q (.str x u) { s with heap := h', toks := tk } :=
        fun h' u tk hk hx => by subst hx; exact ⟨.str _, W.H, I.kept hk, ⟨_, rfl⟩, q W _ rfl ok (Ext.refl _) (.str _)⟩
      cases d0 with
      | non =>
        cases r1.non_inv
        cases ru
        exact PySem.P.repr_of_none (fin s.heap _ _ (fun _ _ e => e) rfl)
      | bl x =>
        cases r1.bl_inv
        cases ru
        exact PySem.P.repr_of_bool (fin s.heap _ _ (fun _ _ e => e) rfl)
      | int i =>
        cases r1.int_inv
        obtain ⟨t, rfl⟩ := ru
        exact PySem.P.repr_of_int (by simpa [frz, py, PyData.showable] using c2) (fin s.heap _ _ (fun _ _ e => e) rfl)
      | str x =>
        cases r1.str_inv
        obtain ⟨t, rfl⟩ := ru
        exact PySem.P.repr_of_str (fin s.heap _ _ (fun _ _ e => e) rfl) (by simpa [frz, py, PyData.shown] using c3)
      | tup ds =>
        obtain ⟨as0, rd⟩ := Rep.reads I r1 c1 ru
        obtain ⟨a, ys, rfl, ht, hr⟩ := r1.tup_inv
        cases ru
        exact shows_tup I as0 rd ht.sq hr (by unfold frz pur at c1; exact c1) c2 c3 b.gd (hu _ c4) fun h' u tk hk => fin h' u tk hk rfl
      | lst ds =>
        obtain ⟨as0, rd⟩ := Rep.reads I r1 c1 ru
        obtain ⟨a, ys, rfl, ht, hr⟩ := r1.lst_inv
        cases ru
        exact shows_lst I as0 rd ht.sq hr (by unfold frz pur at c1; exact c1) c2 c3 b.gd (hu _ c4) fun h' u tk hk => fin h' u tk hk rfl
      | dct ks ds =>
        obtain ⟨as0, rd⟩ := Rep.reads I r1 c1 ru
        unfold Rep at r1
        obtain ⟨a, ys, rfl, hH, _, hl, hr⟩ := r1
        cases ru
        exact shows_dct I as0 rd hH hl hr (by unfold frz pur at c1; exact c1) c2 c3 b.gd (hu _ c4) fun h' u tk hk => fin h' u tk hk rfl
      | cell n =>
        have e0 : frz W.st (.cell n) = (match W.st[n]? with | some (.lst ds) => .lst ds | some (.dct ks ds) => .dct ks ds | _ => .cell n) := rfl
        cases e1 : W.st[n]? with
        | none => rw [e1] at e0; rw [e0] at c1; unfold pur at c1; cases c1
        | some c =>
          cases c with
          | dead => rw [e1] at e0; rw [e0] at c1; unfold pur at c1; cases c1
          | ins _ _ => rw [e1] at e0; rw [e0] at c1; unfold pur at c1; cases c1
          | clo _ _ _ => rw [e1] at e0; rw [e0] at c1; unfold pur at c1; cases c1
          | lst es =>
            rw [e1] at e0
            have e0 : frz W.st (.cell n) = .lst es := e0
            rw [e0] at c1 c2 c3 c4 fin
            obtain ⟨a, ys, rfl, ha, hH, z⟩ := cell_lst ok r1 e1
            cases ru
            obtain ⟨its, rv', ⟨o, m, ho, hc, _, hd⟩, _⟩ := I.list (SqL.of hH)
            have p : purL es = true := by unfold pur at c1; exact c1
            obtain ⟨bs, rd⟩ := RepL.reads I z p rv'
            exact shows_lst I _ (.list ho hc hd rd) (SqL.of hH) z p c2 c3 b.gd (hu _ c4) fun h' u tk hk => fin h' u tk hk rfl
          | dct ks es =>
            rw [e1] at e0
            have e0 : frz W.st (.cell n) = .dct ks es := e0
            rw [e0] at c1 c2 c3 c4 fin
            obtain ⟨a, ys, rfl, ha, hH, hl, z⟩ := cell_dct ok r1 e1
            cases ru
            obtain ⟨_, o, es', ep, as, ho, hx, hd, hv, hk⟩ := dct_obj I hH hl
            have p : purL es = true := by unfold pur at c1; exact c1
            obtain ⟨bs, rd⟩ := RepL.reads I z p hv
            have l2 : (ks.map keyPy).length = (pyL es).length := by rw [List.length_map, pyL_length, hl, z.length]
            exact shows_dct I _ (.dict (kvs := (ks.map keyPy).zip (pyL es)) ho hx.1 hd (by rw [zip_fst l2]; exact hk) (by rw [zip_snd l2]; exact rd)) hH hl z p c2 c3 b.gd (hu _ c4) fun h' u tk hk => fin h' u tk hk rfl
      | glob x => unfold frz pur at c1; cases c1
      | scr x => unfold frz pur at c1; cases c1
      | exc c ks ds => unfold frz pur at c1; cases c1
    · rw [if_neg c] at h1; cases h1
  · cases hg
end
end Pd

namespace Pd
open PySem PySem.Spec L2
open PyProof.Rows hiding St
variable [Codes]

/-! ## a, b, *c = t -/
section
variable {prog : Program} {w : World} {A : Around} {E : Value → Shared → Prop} {s : Shared}
theorem walk_from {I ax : Addr} {items : Array Value} (W : Walks prog w A I [I, ax] [I] items.size (fun i v => items[i]? = some v) (fun i h => h.IsTupleIter I ax i ∧ h.IsTuple ax items)) (k : Nat) (hk : k ≤ items.size) :
    Walks prog w A I [I, ax] [I] (items.size - k) (fun i v => items[i + k]? = some v) (fun i h => h.IsTupleIter I ax (i + k) ∧ h.IsTuple ax items) where
  sub := W.sub
  frame := fun i h h' st x => W.frame (i + k) h h' st x
  item := fun i s Q E hi st q => W.item (i + k) s Q E (by omega) st fun v h' tk a b c => q v h' tk a (by rw [show i + 1 + k = i + k + 1 by omega]; exact b) c
  done := fun s Q E st q => W.done s Q E (by rw [show items.size - k + k = items.size by omega] at st; exact st) q
  self := fun i s Q E st q => W.self (i + k) s Q E st q
theorem unpack_star {t : Addr} {items : Array Value} {k : Nat} {Q : List Value → Shared → Prop} (hh : A.handled = none) (ht : s.heap.IsTuple t items) (hk : k ≤ items.size) (hz : items.size ≤ sizeLine)
    (hQ : ∀ (s' : Shared), (∀ b o, s.heap.get? b = some o → s'.heap.get? b = some o) → s'.gens = s.gens → s'.drawn = s.drawn → s'.os = s.os →
      Q (items.toList.take k ++ [.ref s'.heap.objs.size]) { s' with heap := s'.heap.push { cls := .type "list", data := .seq (items.toList.drop k).toArray } }) : wpAny (model prog w) A (unpackItems (.ref t) (k + 1) (some k)) Q E s := by
  have hlt : t ≠ s.heap.objs.size := by obtain ⟨o, ho, _⟩ := ht; exact Nat.ne_of_lt (Heap.lt_size ho)
  unfold unpackItems
  refine wpAny_bind ?_
  · unfold notIterableAtAll
    refine wpAny_bind (wpAny_specialOf ht.typeIs F.slot_tuple_iter.lookup ?_)
    refine wpAny_pure ?_
    simp only [Bool.false_eq_true, if_false]
    refine wpAny_bind (wpAny_holding (wpAny_pyIter_tuple ht ?_))
    refine wpAny_bind (wpAny_holding (wpAny_draw_tuple hlt k 0 _ _ ⟨_, Heap.get?_push_size _ rfl, rfl, rfl⟩ (ht.push _) (by omega) fun h₁ hit₁ hs₁ => ?_))
    rw [List.drop_zero]
    have hl : (List.take k items.toList).length = k := by simp; omega
    rw [if_neg (by rw [hl]; exact Nat.lt_irrefl k)]
    have ht₁ : h₁.IsTuple t items := (ht.push _).extBut hs₁.extBut hlt
    have W := (walk_from (Walks.tuple (prog := prog) (w := w) (A := A.in1) hh s.heap.objs.size t hlt items) k hk).toS
    have e0 : 0 + k = k := Nat.zero_add k
    refine wpAny_bind (wpAny_holding (wpAny_collect_iter (s := { s with heap := h₁ }) (.inr (.inr (.inr rfl))) W (fun i s' st => st.1.typeIs) ⟨by rw [e0]; rw [e0] at hit₁; exact hit₁, ht₁⟩ ?_ (by simp) (fun s' acc hm hacc => ?_) (by omega)))
    · intro b hb
      simp at hb
      rcases hb with rfl | rfl
      · obtain ⟨o, ho, _⟩ := hit₁; exact Heap.lt_size ho
      · obtain ⟨o, ho, _⟩ := ht₁; exact Heap.lt_size ho
    have eacc : acc.toList = items.toList.drop k := by
      apply List.ext_getElem?
      intro i
      by_cases hi : i < acc.size
      · have h1 := hacc.2 i acc[i] (by simp [hi])
        rw [List.getElem?_drop, Array.getElem?_toList, Array.getElem?_toList, Nat.add_comm k i, h1]
        simp [hi]
      · rw [List.getElem?_eq_none (by simp; omega), List.getElem?_eq_none (by simp; have := hacc.1; omega)]
    simp only [Nat.add_sub_cancel, Nat.sub_self, Nat.not_lt_zero, if_false, Nat.sub_zero]
    rw [eacc]
    have et : List.take (items.toList.drop k).length (items.toList.drop k) = items.toList.drop k := List.take_of_length_le (Nat.le_refl _)
    have ed : List.drop (items.toList.drop k).length (items.toList.drop k) = [] := List.drop_of_length_le (Nat.le_refl _)
    rw [et, ed]
    have fin := hQ s' (fun b o e => hm.heap b o (by intro z; simp at z; subst z; exact absurd (Heap.lt_size e) (Nat.lt_irrefl _)) (hs₁.extBut b o (Nat.ne_of_lt (Heap.lt_size e)) (Heap.get?_push_of_some _ e))) hm.gens hm.drawn hm.os
    show wpAny _ _ (newList (List.drop k items.toList) >>= _) _ _ s'
    refine wpAny_bind (wpAny_newObj_type ?_ (by have : (List.drop k items.toList).toArray.size ≤ sizeLine := by simp; omega
                                                exact this))
    refine wpAny_pure ?_
    rw [List.append_nil]
    exact fin
end
section
variable {X : Cx} {Wx : WX}
def gStar (K : PySem.W.Frag) (k : Nat) (t : TGs) : TG := fun v σ H Q => ∃ a xs, v = .ref a ∧ SqT K H a xs ∧ k ≤ xs.length ∧ ∀ p, H p = none → t (xs.take k ++ [.ref p]) σ (upd H p (.lst (xs.drop k))) Q
theorem pg_star {es es' : List Expr} {c : Nat} {k : Nat} {t : TGs} {pos : Pos} (hc : X.calm = true) (h : PGs X es' t)
    (hn : (assignEach es X.env).length = k + 1 := by rfl) (hst : (assignEach es X.env).findIdx? (·.1) = some k := by rfl) (hm : (assignEach es X.env).map (·.2) = (assignEach es' X.env).map (·.2) := by rfl) : PG X (.Tuple es c pos) (gStar X.K k t) := by
  refine ⟨fun pins s σ H v u Q I r hw => ?_⟩
  obtain ⟨a, xs, e1, hq, hl, hw⟩ := hw
  subst e1
  cases r
  obtain ⟨its, rv, ht, hz⟩ := I.tuple hq
  rw [PyProof.Rows.assign_Tuple]
  refine wpAny_bind (wpAny_standAt ?_)
  unfold unpack
  rw [hn, hst, hm]
  obtain ⟨o, ho, hcl, m, hd⟩ := ht
  have e2 := rv.length
  refine wpAny_bind (wpAny_holding (unpack_star (I.ok.hd hc) ⟨o, ho, hcl, m, hd⟩ (by simp; omega) (by simp; omega) fun s' hk hg hdr hos => ?_))
  have I0 : Inv X pins σ H { s with heap := s'.heap, toks := s'.toks } := I.kept hk
  have es' : { s with heap := s'.heap, toks := s'.toks } = s' := by cases s; cases s'; simp_all
  rw [es'] at I0
  have rv2 : Vals (xs.drop k) (its.drop k) := rv.drop k
  have I1 := I0.lnew (t' := s'.toks) rv2 (by rw [List.length_drop]; omega)
  have hw1 := hw s'.heap.objs.size (I0.hok.fresh (Nat.le_refl _))
  have rr : RelV (.ref s'.heap.objs.size) (.ref s'.heap.objs.size) := rfl
  exact h.run pins _ σ _ _ _ Q I1 ((rv.take k).append (.cons rr .nil)) hw1
def sStar (k : Nat) (gs : List GM) (m : EM) : SM := fun en st => smb (m en st) en fun d st => match d with
  | .tup ds => if k ≤ ds.length then (match gmAll gs (ds.take k ++ [.lst (ds.drop k)]) en st with | some en' => .nx en' st | none => .bad) else .bad
  | _ => .bad
theorem pds_star {es es' : List Expr} {c k : Nat} {vs : List Nat} {gs : List GM} {e : Expr} {m : EM} {pos pt : Pos} (he : PD X Wx e m) (hg : PDGs X vs es' gs) (hc : X.calm = true)
    (hn : (assignEach es X.env).length = k + 1 := by rfl) (hst : (assignEach es X.env).findIdx? (·.1) = some k := by rfl) (hm : (assignEach es X.env).map (·.2) = (assignEach es' X.env).map (·.2) := by rfl)
    (hs : swapsWithSole [.Tuple es c pt] e pos.line X.env = pure false := by rfl) (hw : swappedStores [.Tuple es c pt] e X.env = pure none := by rfl)
    (h1 : (assignEach [.Tuple es c pt] X.env).map (·.2) = [assign (.Tuple es c pt) X.env] := by rfl) : PDS X Wx (.Assign [.Tuple es c pt] e pos) (sStar k gs m) :=
  ⟨PS.weak (ps_asg he.pe (pg_star hc hg.pg hn hst hm) hs hw h1) fun Dn σ H ⟨W, en, e, ok, er, q⟩ => by
    subst e
    refine seqS ok er q fun d W1 v ok1 e1 er1 r1 q1 => ?_
    cases d with
    | tup ds =>
      have q1 : PostS (cn X) Wx W1 Dn (if k ≤ ds.length then (match gmAll gs (ds.take k ++ [.lst (ds.drop k)]) en W1.st with | some en' => .nx en' W1.st | none => .bad) else .bad) := q1
      by_cases hk : k ≤ ds.length
      · rw [if_pos hk] at q1
        cases e2 : gmAll gs (ds.take k ++ [.lst (ds.drop k)]) en W1.st with
        | none => rw [e2] at q1; exact q1.elim
        | some en' =>
          rw [e2] at q1
          obtain ⟨a, xs, rfl, ht, hr⟩ := r1.tup_inv
          refine ⟨a, xs, rfl, ht.sq, by rw [← hr.length]; exact hk, fun p hp => ?_⟩
          have rx := lay_lst ok1 hp (hr.drop k)
          have ex := lay_ext ok1 hp (.lst (xs.drop k))
          exact ⟨W1.lay p (.lst (xs.drop k)), en, _, en', rfl, lay_ok ok1 hp _, er1.ext ex, ((hr.take k).mn ex.mn).append (.cons rx .nil), e2, fun σ' er' _ => q1 (W1.lay p _) σ' rfl (lay_ok ok1 hp _) ex er'⟩
      · rw [if_neg hk] at q1; exact q1.elim
    | _ => exact q1.elim⟩

/-! ## t[::-1] -/
theorem sliceApplied_rev {prog : Program} {w : World} {A : Around} {E : Value → Shared → Prop} {s : Shared} {sl : Addr} {vl vu vs : Value} {n : Nat} {Q : Int × Int × Nat → Shared → Prop} (hs : s.heap.IsSliceOf sl vl vu vs) (pl : IsPart vl none) (pu : IsPart vu none) (ps : IsPart vs (some (-1)))
    (h : Q ((n : Int) - 1, -1, n) s) : wpAny (model prog w) A (Builtin.Slice.sliceApplied (.ref sl) (pure (n : Int))) Q E s := by
  obtain ⟨os, hos, hcs, hds⟩ := id hs
  unfold Builtin.Slice.sliceApplied Builtin.Slice.sliceFields
  refine wpAny_bind (wpAny_bind (wpAny_field hos hds (x := vl) rfl (wpAny_bind (wpAny_field hos hds (x := vu) rfl (wpAny_bind (wpAny_field hos hds (x := vs) rfl (wpAny_pure ?_)))))))
  refine wpAny_bind (HT.slicePart_ ps ?_)
  show wpAny _ _ (if ((-1 : Int) == 0) = true then _ else _) _ _ s
  rw [if_neg (by decide)]
  refine wpAny_bind (HT.slicePart_ pl (wpAny_bind (HT.slicePart_ pu (wpAny_bind (wpAny_pure ?_)))))
  show wpAny _ _ (match Builtin.Slice.sliceAdjust none none (-1) (n : Int) with | (lo, hi) => pure (lo, (-1 : Int), Builtin.Slice.slicePlaces lo hi (-1))) _ _ s
  have e : Builtin.Slice.sliceAdjust none none (-1) (n : Int) = ((n : Int) - 1, -1) := rfl
  rw [e]
  have e2 : Builtin.Slice.slicePlaces ((n : Int) - 1) (-1) (-1) = n := by
    unfold Builtin.Slice.slicePlaces
    have h1 : ¬ ((-1 : Int) > 0) := by omega
    simp only [h1, if_false, show (- -1 : Int) = 1 by decide, Int.ediv_one]
    split <;> omega
  show wpAny _ _ (pure ((n : Int) - 1, (-1 : Int), Builtin.Slice.slicePlaces ((n : Int) - 1) (-1) (-1))) _ _ s
  rw [e2]
  exact wpAny_pure h
theorem fm_congr {α β : Type} {f g : α → Option β} : ∀ {l : List α}, (∀ x ∈ l, f x = g x) → l.filterMap f = l.filterMap g
  | [], _ => rfl
  | a :: r, h => by
    rw [List.filterMap_cons, List.filterMap_cons, h a (.head _), fm_congr fun x hx => h x (.tail _ hx)]
theorem pick_rev (xs : List Value) : ((List.range xs.length).filterMap fun (m : Nat) => xs.toArray[(((xs.length : Nat) : Int) - 1 + (m : Int) * -1).toNat]?) = xs.reverse := by
  have : (List.range xs.length).filterMap (fun (m : Nat) => xs.toArray[(((xs.length : Nat) : Int) - 1 + (m : Int) * -1).toNat]?) = (List.range xs.length).filterMap fun m => xs.reverse[m]? := by
    apply fm_congr
    intro m hm
    have hm := List.mem_range.mp hm
    have : (((xs.length : Nat) : Int) - 1 + (m : Int) * -1).toNat = xs.length - 1 - m := by omega
    rw [this, List.getElem?_reverse hm]
    simp
  rw [this]
  have h2 : ∀ (ys : List Value), (List.range ys.length).filterMap (fun m => ys[m]?) = ys := by
    intro ys
    apply List.ext_getElem?
    intro i
    have : (List.range ys.length).filterMap (fun m => ys[m]?) = ys := by
      induction ys with
      | nil => rfl
      | cons y ys ih =>
        rw [List.length_cons, List.range_succ_eq_map, List.filterMap_cons]
        simp only [List.getElem?_cons_zero, List.filterMap_map]
        have : ((fun m => (y :: ys)[m]?) ∘ Nat.succ) = fun m => ys[m]? := by funext m; rfl
        rw [this, ih]
    rw [this]
  have := h2 xs.reverse
  rw [List.length_reverse] at this
  exact this
theorem getItem_tuple_rev {prog : Program} {w : World} {A : Around} {E : Value → Shared → Prop} {s : Shared} {t sl : Addr} {its : List Value} {vl vu vs : Value} {Q : Value → Shared → Prop} (ht : IsTup s.heap t its.toArray) (hs : s.heap.IsSliceOf sl vl vu vs) (pl : IsPart vl none) (pu : IsPart vu none) (ps : IsPart vs (some (-1)))
    (h : Q (.ref s.heap.objs.size) { s with heap := s.heap.push { cls := .type "tuple", data := .seq its.reverse.toArray } }) (hsz : its.length ≤ sizeLine) : wpAny (model prog w) A (getItem (.ref t) (.ref sl)) Q E s := by
  have htake : sizeOk (.seq its.reverse.toArray) := by
    show its.reverse.toArray.size ≤ sizeLine
    rw [List.size_toArray, List.length_reverse]
    exact hsz
  obtain ⟨os, hos, hcs, hds⟩ := id hs
  have hTs : s.TypeIs (.ref sl) "slice" := ⟨os, hos, hcs⟩
  unfold getItem
  try with_reducible refine wpAny_holding ?_
  first | refine wpAny_bind (wpAny_pure ?_) | skip
  refine wpAny_bind (wpAny_sequenceKey ht.typeIs (by decide) ?_)
  refine wpAny_bind (wpAny_callSpecial?_slot (name := Str.ofString "__getitem__") ht.typeIs PyProof.Rows.slot_tuple_getitem
    (wpAny_call_entry PyProof.Rows.slot_tuple_getitem ht.typeIs entry_tuple_getitem ?_ (args_tuple_getitem _ _)))
  show wpAny _ _ (Builtin.Tuple.tupleItemsOf (.ref t) >>= _) _ _ s
  refine wpAny_bind (tupleItemsOf_ ht ?_)
  refine wpAny_bind (wpAny_typeOf hTs ?_)
  rw [if_pos (by decide)]
  have e0 : its.toArray.size = its.length := List.size_toArray ..
  rw [e0]
  refine wpAny_bind (sliceApplied_rev hs pl pu ps ?_)
  have hno : ¬ ((((its.length : Nat) : Int) - 1 == 0 && (-1 : Int) == 1 && its.length == its.length) = true) := by
    intro q
    rw [Bool.and_eq_true, Bool.and_eq_true] at q
    exact absurd q.1.2 (by decide)
  show wpAny _ _ (if ((((its.length : Nat) : Int) - 1 == 0 && (-1 : Int) == 1 && its.length == its.length) = true) then _ else _) _ _ s
  rw [if_neg hno, pick_rev]
  first
    | exact wpAny_bind (m := Builtin.Tuple.tupleExact _) (wpAny_newObj_type (wpAny_pure ⟨_, rfl, wpAny_pure h⟩) htake)
    | exact wpAny_bind (m := Builtin.Tuple.tupleExact _) (wpAny_newObj_type (wpAny_bind (wpAny_pure (wpAny_pure ⟨_, rfl, wpAny_pure h⟩))) htake)
    | exact wpAny_bind (wpAny_bind (m := Builtin.Tuple.tupleExact _) (wpAny_newObj_type (wpAny_pure (wpAny_pure ⟨_, rfl, wpAny_pure h⟩)) htake))
    | exact wpAny_bind (wpAny_bind (m := Builtin.Tuple.tupleExact _) (wpAny_newObj_type (wpAny_pure ⟨_, rfl, wpAny_pure h⟩) htake))
def tRevA (K : PySem.W.Frag) (te : TE) : TE := fun σ H Q => te σ H fun x H1 => ∃ a xs, x = .ref a ∧ ((SqL K H1 a xs ∧ ∀ p, H1 p = none → Q (.ref p) (upd H1 p (.lst xs.reverse))) ∨ (SqT K H1 a xs ∧ ∀ p, H1 p = none → Q (.ref p) (upd H1 p (.tup xs.reverse))))
theorem pe_revA {e : Expr} {te : TE} {k : Nat} {p1 p2 p3 pos : Pos} (he : PE X e te) : PE X (.Subscript e (.Slice none none (some (.UnaryOp .USub (.Constant (.int 1) k p1) p2)) p3) pos) (tRevA X.K te) := by
  refine ⟨fun pins s σ H Q I h => ?_⟩
  refine Subscript_ (thn (he.run pins s σ H _ I h) fun v s1 ⟨x, H1, I1, r1, q1⟩ => ?_)
  obtain ⟨a, xs, ex, q⟩ := q1
  subst ex
  cases r1
  have hst : PO X (some (.UnaryOp .USub (.Constant (.int 1) k p1) p2)) (tPart (tUn (rU fun i => .int (-i)) (tC (.int 1)))) := po_some (pe_un un_neg pe_int)
  refine wpAny_Slice (thn (po_none.run pins s1 σ H1 (fun o H2 => o = none ∧ H2 = H1) I1 ⟨rfl, rfl⟩) fun vl s2 ⟨l, H2, I2, pl, el, e2⟩ => ?_)
  subst el e2
  refine thn (po_none.run pins s2 σ H2 (fun o H3 => o = none ∧ H3 = H2) I2 ⟨rfl, rfl⟩) fun vu s3 ⟨u, H3, I3, pu, eu, e3⟩ => ?_
  subst eu e3
  refine thn (hst.run pins s3 σ H3 (fun o H4 => o = some (-1) ∧ H4 = H3) I3 ⟨1, rfl, -1, rfl, rfl, rfl⟩) fun vs s4 ⟨o, H4, I4, ps, eo, e4⟩ => ?_
  subst eo e4
  have I5 : Inv X pins σ H4 { s4 with heap := s4.heap.push { cls := .type "slice", data := .fields #[vl, vu, vs] } } := I4.kept (t' := s4.toks) fun b ob q => Heap.get?_push_of_some _ q
  rcases q with ⟨hx, q⟩ | ⟨hx, q⟩
  · obtain ⟨its, r, ht, hz⟩ := I5.list hx
    have hlen := r.length
    show wpAny (model X.prog X.w) X.A (subscriptTail e (.Slice none none (some (.UnaryOp .USub (.Constant (.int 1) k p1) p2)) p3) (.ref a) (.ref s4.heap.objs.size)) (EP X pins σ Q) X.xe { s4 with heap := s4.heap.push { cls := .type "slice", data := .fields #[vl, vu, vs] } }
    refine tail_any (ops := [.ref a, .ref s4.heap.objs.size]) ht.isList.typeIs (PySem.slot_list_getitem.lookup) ?_ (by with_unfolding_all rfl)
    refine wpAny_getItem_list_slice ht.isList (Heap.IsSliceOf.new _ vl vu vs) pl pu ps (by decide) ?_ (by rw [List.size_toArray]; omega)
    rw [PySem.W.krv_pick]
    refine ⟨.ref _, _, I5.laid (t' := s4.toks) (o := .lst xs.reverse) (fun b ob q => Heap.get?_push_of_some _ q) (Nat.le_refl _) ?_, rfl, q _ (I5.hok.fresh (Nat.le_refl _))⟩
    exact ⟨by rw [List.length_reverse]; exact hz, _, 0, r.reverse, Heap.get?_push_size _ rfl⟩
  · obtain ⟨its, r, ht, hz⟩ := I5.tuple hx
    have hlen := r.length
    show wpAny (model X.prog X.w) X.A (subscriptTail e (.Slice none none (some (.UnaryOp .USub (.Constant (.int 1) k p1) p2)) p3) (.ref a) (.ref s4.heap.objs.size)) (EP X pins σ Q) X.xe { s4 with heap := s4.heap.push { cls := .type "slice", data := .fields #[vl, vu, vs] } }
    refine tail_any (ops := [.ref a, .ref s4.heap.objs.size]) ht.typeIs (PyProof.Rows.slot_tuple_getitem.lookup) ?_ (by with_unfolding_all rfl)
    refine getItem_tuple_rev ht (Heap.IsSliceOf.new _ vl vu vs) pl pu ps ?_ (by omega)
    refine ⟨.ref _, _, I5.laid (t' := s4.toks) (o := .tup xs.reverse) (fun b ob q => Heap.get?_push_of_some _ q) (Nat.le_refl _) ?_, rfl, q _ (I5.hok.fresh (Nat.le_refl _))⟩
    exact ⟨by rw [List.length_reverse]; exact hz, _, r.reverse, IsTup.new _ _⟩
def revA (d : D) (st : Sto) : Option D := match d with
  | .tup ds => some (.tup ds.reverse)
  | d => revD d st
theorem pd_rev {e : Expr} {m : EM} {k' : Nat} {p1 p2 p3 pos : Pos} (he : PD X Wx e m) : PD X Wx (.Subscript e (.Slice none none (some (.UnaryOp .USub (.Constant (.int 1) k' p1) p2)) p3) pos) (mUn revA m) :=
  ⟨PE.weak (pe_revA he.pe) fun σ H Q ⟨W, en, e, ok, er, q⟩ => by
    subst e
    refine seqE ok er q fun d W1 v ok1 e1 er1 r1 q1 => ?_
    cases e4 : revA d W1.st with
    | none => rw [e4] at q1; exact q1.elim
    | some d' =>
      rw [e4] at q1
      have fin : ∀ {ds : List D}, d' = .lst ds.reverse → seqB W1.st d = some ds → (∀ es, d ≠ .tup es) → ∃ a xs, v = .ref a ∧ ((SqL X.K W1.H a xs ∧ ∀ p, W1.H p = none → Q (.ref p) (upd W1.H p (.lst xs.reverse))) ∨ (SqT X.K W1.H a xs ∧ ∀ p, W1.H p = none → Q (.ref p) (upd W1.H p (.tup xs.reverse)))) := by
        intro ds h1 h2 h3
        subst h1
        cases d with
        | scr ns =>
          cases h2
          unfold Rep at r1
          obtain ⟨a, rfl, z⟩ := r1
          exact ⟨a, _, rfl, .inl ⟨z.sq, fun p' hp => q1 (W1.lay p' _) _ rfl (lay_ok ok1 hp _) (lay_ext ok1 hp _) (lay_lst ok1 hp (RepL.of_ints ns).reverse)⟩⟩
        | tup es => exact absurd rfl (h3 es)
        | lst es =>
          cases h2
          obtain ⟨p, xs, rfl, z, hH⟩ := lists_of ok1 r1 rfl
          exact ⟨p, xs, rfl, .inl ⟨SqL.of hH, fun p' hp => q1 (W1.lay p' _) _ rfl (lay_ok ok1 hp _) (lay_ext ok1 hp _) (lay_lst ok1 hp z.reverse)⟩⟩
        | cell n =>
          have h2 : (match deref W1.st (.cell n) with | .lst ds => some ds | .tup ds => some ds | _ => none) = some ds := h2
          cases e5 : deref W1.st (.cell n) with
          | lst ds =>
            rw [e5] at h2
            cases h2
            obtain ⟨p, xs, rfl, z, hH⟩ := lists_of ok1 r1 e5
            exact ⟨p, xs, rfl, .inl ⟨SqL.of hH, fun p' hp => q1 (W1.lay p' _) _ rfl (lay_ok ok1 hp _) (lay_ext ok1 hp _) (lay_lst ok1 hp z.reverse)⟩⟩
          | tup ds =>
            rw [deref_cell] at e5
            cases e6 : W1.st[n]? with
            | none => rw [e6] at e5; cases e5
            | some c => cases c <;> (rw [e6] at e5; cases e5)
          | _ => rw [e5] at h2; cases h2
        | _ => cases h2
      unfold revA at e4
      cases d with
      | tup ds =>
        cases e4
        obtain ⟨a, xs, rfl, z, hr⟩ := r1.tup_inv
        exact ⟨a, xs, rfl, .inr ⟨z.sq, fun p' hp => q1 (W1.lay p' _) _ rfl (lay_ok ok1 hp _) (lay_ext ok1 hp _) (lay_tup ok1 hp hr.reverse)⟩⟩
      | scr ns => cases e4; exact fin rfl rfl (by intro _ z; cases z)
      | lst ds => cases e4; exact fin rfl rfl (by intro _ z; cases z)
      | cell n =>
        have e4 : (match deref W1.st (.cell n) with | .lst ds => some (D.lst ds.reverse) | _ => none) = some d' := e4
        cases e5 : deref W1.st (.cell n) with
        | lst ds =>
          rw [e5] at e4
          cases e4
          refine fin rfl ?_ (by intro _ z; cases z)
          show (match deref W1.st (.cell n) with | .lst ds => some ds | .tup ds => some ds | _ => none) = some ds
          rw [e5]
        | _ => rw [e5] at e4; cases e4
      | _ => cases e4⟩
/-- a reversed list, to be changed -/
def mUnC (g : D → Sto → Option D) (m : EM) : EM := fun en st => mb (m en st) fun d st => match g d st with | some (.lst ds) => .ok (.cell st.length) (st ++ [.lst ds]) | _ => .bad
theorem pd_revC {e : Expr} {m : EM} {k' : Nat} {p1 p2 p3 pos : Pos} (he : PD X Wx e m) : PD X Wx (.Subscript e (.Slice none none (some (.UnaryOp .USub (.Constant (.int 1) k' p1) p2)) p3) pos) (mUnC revD m) :=
  ⟨PE.weak (pe_revL he.pe) fun σ H Q ⟨W, en, e, ok, er, q⟩ => by
    subst e
    refine seqE ok er q fun d W1 v ok1 e1 er1 r1 q1 => ?_
    have fin : ∀ {ds : List D} {p : Addr} {xs : List V}, revD d W1.st = some (.lst ds.reverse) → SqL X.K W1.H p xs → RepL (cn X) W1 ds xs → v = .ref p → ∃ a xs, v = .ref a ∧ SqL X.K W1.H a xs ∧ ∀ p, W1.H p = none → Q (.ref p) (upd W1.H p (.lst xs.reverse)) := by
      intro ds p xs h1 h2 h3 h4
      rw [h1] at q1
      exact ⟨p, xs, h4, h2, fun p' hp => q1 (W1.cel p' (.lst xs.reverse) (.lst ds.reverse)) _ rfl (cel_lst_ok ok1 hp h3.reverse) (cel_ext ok1 hp _ _) (cel_rep ok1)⟩
    cases d with
    | scr ns =>
      have r1' := r1
      unfold Rep at r1'
      obtain ⟨a, rfl, z⟩ := r1'
      exact fin rfl z.sq (RepL.of_ints ns) rfl
    | lst ds =>
      obtain ⟨p, xs, rfl, z, hH⟩ := lists_of ok1 r1 rfl
      exact fin rfl (SqL.of hH) z rfl
    | cell n =>
      have e4 : revD (.cell n) W1.st = (match deref W1.st (.cell n) with | .lst ds => some (D.lst ds.reverse) | _ => none) := rfl
      cases e5 : deref W1.st (.cell n) with
      | lst ds =>
        rw [e5] at e4
        obtain ⟨p, xs, rfl, z, hH⟩ := lists_of ok1 r1 e5
        exact fin e4 (SqL.of hH) z rfl
      | _ => rw [e5] at e4; rw [e4] at q1; exact q1.elim
    | _ => exact q1.elim⟩
/-- list + list, to be changed -/
def mOpC (g : D → D → Sto → Option D) (ma mb' : EM) : EM := fun en st => mb (ma en st) fun x st => mb (mb' en st) fun y st => match g x y st with | some (.lst ds) => .ok (.cell st.length) (st ++ [.lst ds]) | _ => .bad
def catD (a b : D) (st : Sto) : Option D := match deref st a, deref st b with
    | .lst xs, .lst ys => if small (xs.length + ys.length) then some (.lst (xs ++ ys)) else none
    | _, _ => none
theorem pd_catC {a b : Expr} {ma mb' : EM} {pos : Pos} (ha : PD X Wx a ma) (hb : PD X Wx b mb') : PD X Wx (.BinOp a .Add b pos) (mOpC catD ma mb') :=
  ⟨PE.weak (pe_op op_cat ha.pe hb.pe) fun σ H Q ⟨W, en, e, ok, er, q⟩ => by
    subst e
    refine seqE ok er q fun x W1 v ok1 e1 er1 r1 q1 => ?_
    refine seqE ok1 er1 q1 fun y W2 u ok2 e2 er2 r2 q2 => ?_
    unfold catD at q2
    have r1 := r1.ext e2
    cases ex : deref W2.st x with
    | lst xs =>
      cases ey : deref W2.st y with
      | lst ys =>
        rw [ex, ey] at q2
        have q2 : PostE (cn X) Wx W2 σ Q (match (if small (xs.length + ys.length) = true then some (D.lst (xs ++ ys)) else none) with | some (.lst ds) => .ok (.cell W2.st.length) (W2.st ++ [.lst ds]) | _ => .bad) := q2
        by_cases c : small (xs.length + ys.length) = true
        · rw [if_pos c] at q2
          obtain ⟨p1, vs, rfl, z1, h1⟩ := lists_of ok2 r1 ex
          obtain ⟨p2, us, rfl, z2, h2⟩ := lists_of ok2 r2 ey
          refine ⟨p1, p2, vs, us, rfl, rfl, h1, h2, by rw [← z1.length, ← z2.length]; exact small_iff.mp c, fun p hp => ?_⟩
          exact q2 (W2.cel p (.lst (vs ++ us)) (.lst (xs ++ ys))) _ rfl (cel_lst_ok ok2 hp (z1.append z2)) (cel_ext ok2 hp _ _) (cel_rep ok2)
        · rw [if_neg c] at q2; exact q2.elim
      | _ => rw [ex, ey] at q2; exact q2.elim
    | _ => rw [ex] at q2; exact q2.elim⟩

/-! ## all, any -/
def blsD : List D → Option (List Bool)
  | [] => some []
  | .bl i :: r => (blsD r).map (i :: ·)
  | _ => none
theorem blsD_eq : ∀ {ds : List D} {ns : List Bool}, blsD ds = some ns → ds = ns.map .bl
  | [], _, h => by cases h; rfl
  | .bl i :: r, _, h => by
    obtain ⟨ns, h1, rfl⟩ := Option.map_eq_some_iff.mp (show (blsD r).map (i :: ·) = some _ from h)
    rw [List.map_cons, ← blsD_eq h1]
  | .non :: _, _, h => by cases h
  | .str _ :: _, _, h => by cases h
  | .int _ :: _, _, h => by cases h
  | .tup _ :: _, _, h => by cases h
  | .lst _ :: _, _, h => by cases h
  | .dct _ _ :: _, _, h => by cases h
  | .cell _ :: _, _, h => by cases h
  | .glob _ :: _, _, h => by cases h
  | .scr _ :: _, _, h => by cases h
  | .exc _ _ _ :: _, _, h => by cases h
def allG : GC := fun ds st => match ds with | [d] => ((lstB st d).bind blsD).map fun ns => (.bl (ns.all id), st) | _ => none
def anyG : GC := fun ds st => match ds with | [d] => ((lstB st d).bind blsD).map fun ns => (.bl (ns.any id), st) | _ => none
theorem call_allD (hc : X.calm = true) : CallD X (.builtin "all") allG := by
  intro pins s σ H xs us Q I rv ⟨W, ds, d, st, e, ok, r, hg, q⟩
  subst e
  unfold allG at hg
  split at hg
  · obtain ⟨v, rfl, r1⟩ := r.one
    obtain ⟨ns, h1, h2⟩ := Option.map_eq_some_iff.mp hg
    obtain ⟨es, h3, h4⟩ := Option.bind_eq_some_iff.mp h1
    cases h2
    obtain ⟨p, ys, rfl, z, hs⟩ := lists_of ok r1 (lstB_eq h3)
    rw [blsD_eq h4] at z
    rw [z.bls] at hs
    exact cr_all hc pins s σ _ _ us Q I rv ⟨p, ns, rfl, SqL.of hs, q W _ rfl ok (Ext.refl _) (.bl _)⟩
  · cases hg
theorem call_anyD (hc : X.calm = true) : CallD X (.builtin "any") anyG := by
  intro pins s σ H xs us Q I rv ⟨W, ds, d, st, e, ok, r, hg, q⟩
  subst e
  unfold anyG at hg
  split at hg
  · obtain ⟨v, rfl, r1⟩ := r.one
    obtain ⟨ns, h1, h2⟩ := Option.map_eq_some_iff.mp hg
    obtain ⟨es, h3, h4⟩ := Option.bind_eq_some_iff.mp h1
    cases h2
    obtain ⟨p, ys, rfl, z, hs⟩ := lists_of ok r1 (lstB_eq h3)
    rw [blsD_eq h4] at z
    rw [z.bls] at hs
    exact cr_any hc pins s σ _ _ us Q I rv ⟨p, ns, rfl, SqL.of hs, q W _ rfl ok (Ext.refl _) (.bl _)⟩
  · cases hg
end
end Pd

namespace Pd
open PySem PySem.Spec L2
open PyProof.Rows hiding St
variable [Codes]
/-! ## dict displays -/
section
variable {X : Cx} {Wx : WX} {pos : Pos}
def mDnew : EM := fun _ st => .ok (.dct [] []) st
def mDnewC : EM := fun _ st => .ok (.cell st.length) (st ++ [.dct [] []])
theorem pd_dnew : PD X Wx (.Dict [] [] pos) mDnew := ⟨PE.weak pe_dnewK fun σ H Q ⟨W, en, e, ok, er, q⟩ => by
  subst e
  intro p hp
  exact q (W.lay p (.dK [])) _ rfl (lay_ok ok hp _) (lay_ext ok hp _) (lay_dct (ks := []) (ds := []) (xs := []) ok hp rfl .nil)⟩
theorem pd_dnewC : PD X Wx (.Dict [] [] pos) mDnewC := ⟨PE.weak pe_dnewK fun σ H Q ⟨W, en, e, ok, er, q⟩ => by
  subst e
  intro p hp
  exact q (W.cel p (.dK []) (.dct [] [])) _ rfl (cel_dct_ok (ks := []) (ds := []) (xs := []) ok hp rfl .nil) (cel_ext ok hp _ _) (cel_rep ok)⟩
def keyD : D → Option Key
  | .int i => some (.inl i)
  | .str x => some (.inr x)
  | _ => none
theorem keyD_v {C : Cn} {W : Wd} {d : D} {v : V} {k : Key} (r : Rep C W d v) (h : keyD d = some k) : v = kV k := by
  cases d with
  | int i => cases h; exact r.int_inv
  | str x => cases h; exact r.str_inv
  | _ => cases h
abbrev PM := List (EM × EM)
def mPairs : PM → En → Sto → Out (List D × List D)
  | [], _, st => .ok ([], []) st
  | (mk, mv) :: r, en, st => mb (mk en st) fun k st => mb (mv en st) fun v st => mb (mPairs r en st) fun ps st => .ok (k :: ps.1, v :: ps.2) st
def PostP (C : Cn) (W : Wd) (σ : St) (Wx : WX) (Q : List (V × V) → Hp → Prop) : Out (List D × List D) → Prop
  | .ok ps st => ∀ W' us vs, W'.st = st → WOk C W' → Ext W W' → RepL C W' ps.1 us → RepL C W' ps.2 vs → Q (us.zip vs) W'.H
  | .err e st => ∀ W' cls dd, W'.st = st → WOk C W' → Ext W W' → ExR C W' e cls dd → Wx cls dd σ W'.H
  | .bad => False
theorem PostP.ext {C : Cn} {W W' : Wd} {σ : St} {Q : List (V × V) → Hp → Prop} {o : Out (List D × List D)} (h : PostP C W σ Wx Q o) (e : Ext W W') : PostP C W' σ Wx Q o := by
  cases o with
  | ok d st => exact fun W2 us vs h1 h2 h3 => h W2 us vs h1 h2 (e.trans h3)
  | err x st => exact fun W2 c dd h1 h2 h3 => h W2 c dd h1 h2 (e.trans h3)
  | bad => exact h
theorem seqP {C : Cn} {W : Wd} {σ : St} {en : En} {m : EM} {f : D → Sto → Out (List D × List D)} {Q : List (V × V) → Hp → Prop} {R : VK} (ok : WOk C W) (er : EnvR C W σ en) (h : PostP C W σ Wx Q (mb (m en W.st) f))
    (hok : ∀ d W' v, WOk C W' → Ext W W' → EnvR C W' σ en → Rep C W' d v → PostP C W' σ Wx Q (f d W'.st) → R v W'.H) : tD C Wx m σ W.H R := by
  refine ⟨W, en, rfl, ok, er, ?_⟩
  cases e : m en W.st with
  | ok d st =>
    rw [e] at h
    exact fun W' v h1 h2 h3 h4 => hok d W' v h2 h3 (er.ext h3) h4 (by subst h1; exact PostP.ext h h3)
  | err x st => rw [e] at h; exact h
  | bad => rw [e] at h; exact h
inductive PDP (X : Cx) (Wx : WX) : List (Option Expr) → List Expr → PM → Prop
  | nil : PDP X Wx [] [] []
  | cons {k v : Expr} {ks : List (Option Expr)} {vs : List Expr} {mk mv : EM} {ms : PM} (hk : PD X Wx k mk) (hv : PD X Wx v mv) (hr : PDP X Wx ks vs ms) : PDP X Wx (some k :: ks) (v :: vs) ((mk, mv) :: ms)
def trsOf (C : Cn) (Wx : WX) : PM → List (TE × TE)
  | [] => []
  | (mk, mv) :: r => (tD C Wx mk, tD C Wx mv) :: trsOf C Wx r
theorem PDP.pps : ∀ {ks : List (Option Expr)} {vs : List Expr} {ms : PM}, PDP X Wx ks vs ms → PPs X pos ks vs (trsOf (cn X) Wx ms)
  | _, _, _, .nil => pps_nil
  | _, _, _, .cons hk hv hr => pps_cons hk.pe hv.pe (PDP.pps hr)
theorem PDP.all : ∀ {ks : List (Option Expr)} {vs : List Expr} {ms : PM}, PDP X Wx ks vs ms → ks.all (·.isSome) = true ∧ ks.length = vs.length
  | _, _, _, .nil => ⟨rfl, rfl⟩
  | _, _, _, .cons _ _ hr => by obtain ⟨a, b⟩ := PDP.all hr; simp [a, b]
theorem pairs_of {C : Cn} : ∀ {ms : PM} {W : Wd} {σ : St} {en : En} {Q : List (V × V) → Hp → Prop}, WOk C W → EnvR C W σ en → PostP C W σ Wx Q (mPairs ms en W.st) → tPairs (trsOf C Wx ms) σ W.H Q
  | [], W, σ, en, Q, ok, er, q => q W [] [] rfl ok (Ext.refl _) .nil .nil
  | (mk, mv) :: r, W, σ, en, Q, ok, er, q => by
    refine seqP ok er q fun k W1 x ok1 e1 er1 r1 q1 => ?_
    refine seqP ok1 er1 q1 fun v W2 y ok2 e2 er2 r2 q2 => ?_
    refine pairs_of (ms := r) (en := en) ok2 er2 ?_
    cases e : mPairs r en W2.st with
    | ok ps st =>
      rw [e] at q2
      exact fun W3 us vs h1 h2 h3 h4 h5 => q2 W3 (x :: us) (y :: vs) h1 h2 h3 (.cons ((r1.ext e2).ext h3) h4) (.cons (r2.ext h3) h5)
    | err z st => rw [e] at q2; exact q2
    | bad => rw [e] at q2; exact q2
def keysD : List D → Option (List Key)
  | [] => some []
  | d :: r => (keyD d).bind fun k => (keysD r).map (k :: ·)
theorem keysD_v {C : Cn} {W : Wd} : ∀ {ds : List D} {vs : List V} {ks : List Key}, RepL C W ds vs → keysD ds = some ks → vs = ks.map kV
  | [], _, _, r, h => by cases h; exact r.nil_inv
  | d :: ds, _, _, r, h => by
    obtain ⟨v, t, rfl, h1, h2⟩ := r.cons_inv
    obtain ⟨k, h3, h4⟩ := Option.bind_eq_some_iff.mp (show (keyD d).bind (fun k => (keysD ds).map (k :: ·)) = some _ from h)
    obtain ⟨ks, h5, rfl⟩ := Option.map_eq_some_iff.mp h4
    rw [List.map_cons, keyD_v h1 h3, keysD_v h2 h5]
theorem keysD_len : ∀ {ds : List D} {ks : List Key}, keysD ds = some ks → ds.length = ks.length
  | [], _, h => by cases h; rfl
  | d :: ds, _, h => by
    obtain ⟨k, h3, h4⟩ := Option.bind_eq_some_iff.mp (show (keyD d).bind (fun k => (keysD ds).map (k :: ·)) = some _ from h)
    obtain ⟨ks, h5, rfl⟩ := Option.map_eq_some_iff.mp h4
    rw [List.length_cons, List.length_cons, keysD_len h5]
def distinct : List Key → Bool
  | [] => true
  | k :: r => !(r.any fun j => decide (j = k)) && distinct r
theorem zip_map_kV : ∀ (ks : List Key) (vs : List V), (ks.map kV).zip vs = (ks.zip vs).map fun kv => (kV kv.1, kv.2)
  | [], _ => rfl
  | _ :: _, [] => rfl
  | k :: ks, v :: vs => by rw [List.map_cons, List.zip_cons_cons, zip_map_kV ks vs]; rfl
theorem merge_app : ∀ (more kvs : List (Key × V)), distinct (kvs.map (·.1) ++ more.map (·.1)) = true → mergeK kvs more = kvs ++ more
  | [], kvs, _ => by rw [List.append_nil]; rfl
  | p :: r, kvs, h => by
    have hno : (kvs.any fun kv => decide (kv.1 = p.1)) = false := by
      rw [Bool.eq_false_iff]
      intro z
      obtain ⟨q, hq, e⟩ := List.any_eq_true.mp z
      have e := of_decide_eq_true e
      have : ∀ (l : List Key) (m : List Key), q.1 ∈ l → distinct (l ++ p.1 :: m) = true → False := by
        intro l
        induction l with
        | nil => intro m hm; cases hm
        | cons k l ih =>
          intro m hm hd
          rw [List.cons_append] at hd
          unfold distinct at hd
          rw [Bool.and_eq_true, Bool.not_eq_true'] at hd
          rcases List.mem_cons.mp hm with z | z
          · have := hd.1
            rw [Bool.eq_false_iff] at this
            exact this (List.any_eq_true.mpr ⟨p.1, by simp, decide_eq_true (by rw [← e, z])⟩)
          · exact ih m z hd.2
      exact this _ _ (List.mem_map_of_mem (f := (·.1)) hq) (by simpa using h)
    show mergeK (putK kvs p.1 p.2) r = _
    unfold putK
    rw [hno]
    rw [if_neg (by decide)]
    rw [merge_app r (kvs ++ [(p.1, p.2)]) (by simpa using h)]
    simp
theorem merge_nil {ks : List Key} {vs : List V} (hl : ks.length = vs.length) (h : distinct ks = true) : mergeK [] (ks.zip vs) = ks.zip vs := by
  rw [merge_app]
  · rfl
  · rw [List.map_nil, List.nil_append, List.map_fst_zip (by omega)]; exact h
def isE : Option Cel → Bool
  | some (.dct [] []) => true
  | _ => false
theorem isE_eq {o : Option Cel} (h : isE o = true) : o = some (.dct [] []) := by
  unfold isE at h
  split at h
  · rfl
  · cases h
/-- {k: v, ..} that never changes, that does -/
def mDisp (ms : PM) : EM := fun en st => mb (mPairs ms en (st ++ [.dct [] []])) fun ps st' => match keysD ps.1 with
  | some ks => if distinct ks = true ∧ ks.length = ps.2.length ∧ isE st'[st.length]? = true then .ok (.dct ks ps.2) (st'.set st.length .dead) else .bad
  | none => .bad
def mDispC (ms : PM) : EM := fun en st => mb (mPairs ms en (st ++ [.dct [] []])) fun ps st' => match keysD ps.1 with
  | some ks => if distinct ks = true ∧ ks.length = ps.2.length ∧ isE st'[st.length]? = true then .ok (.cell st.length) (st'.set st.length (.dct ks ps.2)) else .bad
  | none => .bad
theorem mPairs_len {en : En} : ∀ {ms : PM} {st st' : Sto} {ps : List D × List D}, mPairs ms en st = .ok ps st' → ps.1.length = ms.length
  | [], _, _, _, h => by cases h; rfl
  | (mk, mv) :: r, st, st', ps, h => by
    have h : mb (mk en st) (fun k st => mb (mv en st) fun v st => mb (mPairs r en st) fun ps st => .ok (k :: ps.1, v :: ps.2) st) = .ok ps st' := h
    cases e1 : mk en st with
    | ok k st1 =>
      rw [e1] at h
      have h : mb (mv en st1) (fun v st => mb (mPairs r en st) fun ps st => .ok (k :: ps.1, v :: ps.2) st) = .ok ps st' := h
      cases e2 : mv en st1 with
      | ok v st2 =>
        rw [e2] at h
        have h : mb (mPairs r en st2) (fun ps st => .ok (k :: ps.1, v :: ps.2) st) = .ok ps st' := h
        cases e3 : mPairs r en st2 with
        | ok q st3 =>
          rw [e3] at h
          cases h
          rw [List.length_cons, List.length_cons, mPairs_len e3]
        | err => rw [e3] at h; cases h
        | bad => rw [e3] at h; cases h
      | err => rw [e2] at h; cases h
      | bad => rw [e2] at h; cases h
    | err => rw [e1] at h; cases h
    | bad => rw [e1] at h; cases h
theorem PDP.len : ∀ {ks : List (Option Expr)} {vs : List Expr} {ms : PM}, PDP X Wx ks vs ms → ks.length = ms.length
  | _, _, _, .nil => rfl
  | _, _, _, .cons _ _ hr => by rw [List.length_cons, List.length_cons, PDP.len hr]
theorem cel_st (W : Wd) (p : Addr) (o : HO) (c : Cel) : (W.cel p o c).st = W.st ++ [c] := rfl
theorem disp_of {C : Cn} {ms : PM} {W : Wd} {σ : St} {en : En} {Q : VK} (ok : WOk C W) (er : EnvR C W σ en) {f : List D × List D → Sto → Out D} (q : PostE C Wx W σ Q (mb (mPairs ms en (W.st ++ [.dct [] []])) f))
    (fin : ∀ W2 ps us vs p, p ∉ W2.hid → ps.1.length = ms.length → WOk C W2 → Ext W W2 → W2.A[W.st.length]? = some p → RepL C W2 ps.1 us → RepL C W2 ps.2 vs → PostE C Wx W2 σ Q (f ps W2.st) → W2.H p = some (.dK []) → W2.st[W.st.length]? = some (.dct [] []) →
      ∃ kvs : List (Key × V), us.zip vs = kvs.map (fun kv => (kV kv.1, kv.2)) ∧ kvs.length ≤ 15 ∧ Q (.ref p) (upd W2.H p (.dK (mergeK [] kvs))))
    (nob : ∀ ps st, st[W.st.length]? ≠ some (.dct [] []) → f ps st = .bad) :
    tDisp (trsOf C Wx ms) σ W.H Q := by
  intro p hp
  have okc : WOk C (W.cel p (.dK []) (.dct [] [])) := cel_dct_ok (ks := []) (ds := []) (xs := []) ok hp rfl .nil
  have exc := cel_ext ok hp (.dK []) (.dct [] [])
  have hA : (W.cel p (.dK []) (.dct [] [])).A[W.st.length]? = some p := by
    show (W.A ++ [p])[W.st.length]? = some p
    rw [← ok.len]; simp
  refine pairs_of (W := W.cel p (.dK []) (.dct [] [])) (en := en) okc (er.ext exc) ?_
  rw [cel_st]
  cases e : mPairs ms en (W.st ++ [.dct [] []]) with
  | bad => rw [e] at q; exact q
  | err x st => rw [e] at q; exact fun W' cls dd h1 h2 h3 => q W' cls dd h1 h2 (exc.trans h3)
  | ok ps st =>
    rw [e] at q
    intro W2 us vs h1 h2 h3 h4 h5
    subst h1
    have ex2 := exc.trans h3
    have q2 : PostE C Wx W2 σ Q (f ps W2.st) := PostE.ext q ex2
    have hA2 : W2.A[W.st.length]? = some p := pre_get h3.pre hA
    by_cases c : W2.st[W.st.length]? = some (.dct [] [])
    · obtain ⟨xs, hx, hl, hr⟩ := h2.at_ _ _ _ hA2 c
      obtain rfl := hr.nil_inv
      exact ⟨hx, fin W2 ps us vs p (fun z => (ok.hidT p (by rw [ex2.hid] at z; exact z)).ne hp) (mPairs_len e) h2 ex2 hA2 h4 h5 q2 hx c⟩
    · rw [nob ps W2.st c] at q2; exact q2.elim
theorem pd_disp {keys : List (Option Expr)} {values : List Expr} {ms : PM} (h : PDP X Wx keys values ms) (h0 : keys ≠ [] := by exact List.cons_ne_nil _ _) (h15 : keys.length ≤ 15 := by decide) : PD X Wx (.Dict keys values pos) (mDisp ms) :=
  ⟨PE.weak (pe_disp h.pps h.all.1 h.all.2 h0 h15) fun σ H Q ⟨W, en, e, ok, er, q⟩ => by
    subst e
    refine disp_of ok er q (fun W2 ps us vs p hid hms ok2 ex2 hA r1 r2 q2 hH hc => ?_) (fun ps st hn => ?_)
    · cases ek : keysD ps.1 with
      | none => simp only [ek] at q2; exact q2.elim
      | some ks =>
        simp only [ek] at q2
        by_cases c : distinct ks = true ∧ ks.length = ps.2.length ∧ isE W2.st[W.st.length]? = true
        · rw [if_pos c] at q2
          have hu := keysD_v r1 ek
          subst hu
          have hl : ks.length ≤ 15 := by rw [← keysD_len ek, hms, ← h.len]; exact h15
          have hlen : ks.length = vs.length := c.2.1.trans r2.length
          refine ⟨ks.zip vs, zip_map_kV ks vs, by rw [List.length_zip]; omega, ?_⟩
          rw [merge_nil hlen c.1]
          have ep := put_ext ok2 hA hc rfl (.dK (ks.zip vs)) .dead
          have op : WOk (cn X) (W2.put W.st.length p (.dK (ks.zip vs)) .dead) := put_ok ok2 hA hc rfl fun W' _ hH' => by
            exact ⟨_, by rw [hH']; exact upd_same, rfl⟩
          refine q2 (W2.put W.st.length p (.dK (ks.zip vs)) .dead) _ rfl op ep ?_
          unfold Rep
          refine ⟨p, vs, rfl, upd_same, fun z => ?_, hlen, r2.ext ep⟩
          rcases z with ⟨n, cc, z1, z2, z3⟩ | z
          · have z1 : W2.A[n]? = some p := z1
            have z2 : (W2.st.set W.st.length .dead)[n]? = some cc := z2
            have hn : n = W.st.length := by
              have a1 := (List.getElem?_eq_some_iff.mp z1).1
              have a2 := (List.getElem?_eq_some_iff.mp hA).1
              exact (List.getElem_inj (h₀ := a1) (h₁ := a2) ok2.nd).mp ((List.getElem?_eq_some_iff.mp z1).2.trans (List.getElem?_eq_some_iff.mp hA).2.symm)
            subst hn
            rw [List.getElem?_set_self (List.getElem?_eq_some_iff.mp hc).1] at z2
            cases z2
            exact z3 rfl
          · exact hid z
        · rw [if_neg c] at q2; exact q2.elim
    · cases ek : keysD ps.1 with
      | none => rfl
      | some ks => exact if_neg fun z => hn (isE_eq z.2.2)⟩
theorem pd_dispC {keys : List (Option Expr)} {values : List Expr} {ms : PM} (h : PDP X Wx keys values ms) (h0 : keys ≠ [] := by exact List.cons_ne_nil _ _) (h15 : keys.length ≤ 15 := by decide) : PD X Wx (.Dict keys values pos) (mDispC ms) :=
  ⟨PE.weak (pe_disp h.pps h.all.1 h.all.2 h0 h15) fun σ H Q ⟨W, en, e, ok, er, q⟩ => by
    subst e
    refine disp_of ok er q (fun W2 ps us vs p hid hms ok2 ex2 hA r1 r2 q2 hH hc => ?_) (fun ps st hn => ?_)
    · cases ek : keysD ps.1 with
      | none => simp only [ek] at q2; exact q2.elim
      | some ks =>
        simp only [ek] at q2
        by_cases c : distinct ks = true ∧ ks.length = ps.2.length ∧ isE W2.st[W.st.length]? = true
        · rw [if_pos c] at q2
          have hu := keysD_v r1 ek
          subst hu
          have hl : ks.length ≤ 15 := by rw [← keysD_len ek, hms, ← h.len]; exact h15
          have hlen : ks.length = vs.length := c.2.1.trans r2.length
          refine ⟨ks.zip vs, zip_map_kV ks vs, by rw [List.length_zip]; omega, ?_⟩
          rw [merge_nil hlen c.1]
          have ep := put_ext ok2 hA hc rfl (.dK (ks.zip vs)) (.dct ks ps.2)
          have op : WOk (cn X) (W2.put W.st.length p (.dK (ks.zip vs)) (.dct ks ps.2)) := put_dct_ok ok2 hA hc rfl hlen r2
          refine q2 (W2.put W.st.length p (.dK (ks.zip vs)) (.dct ks ps.2)) _ rfl op ep ?_
          unfold Rep
          exact ⟨p, rfl, hA⟩
        · rw [if_neg c] at q2; exact q2.elim
    · cases ek : keysD ps.1 with
      | none => rfl
      | some ks => exact if_neg fun z => hn (isE_eq z.2.2)⟩
end
end Pd

namespace Pd
open PySem PySem.Spec L2
open PyProof.Rows hiding St
variable [Codes]
/-! ## a module's defs and constants -/
structure DA (K : PySem.W.Frag) (mg : Str → Option Value) (x : Str) (st : Stmt) (ps : List Str) (f : Addr) (fd : FuncData) : Prop where
  F : Fun K x x st f fd
  mg : mg x = some (.ref f)
  kp : PySem.W.keepIn K (.ref f) = true
  b : Binds K fd ps []
def GTup (K : PySem.W.Frag) (mg : Str → Option Value) (x : Str) (ds : List D) : Prop := ∃ a, mg x = some (.ref a) ∧ ∃ xs, KTup K a xs ∧ ∀ W, RepL ⟨K, mg⟩ W ds xs
section
variable {X : Cx} {Wx : WX} {pos : Pos}
theorem pd_gstrE {x z : Str} (hm : ∃ t, X.mg x = some (.str z t)) (hg : Gl X x := by rfl) (hd : (x == ("__debug__" : Str)) = false := by decide) : PD X Wx (.Name x pos) (mC (.str z)) := by
  obtain ⟨t, h⟩ := hm
  exact pd_gstr hg h hd
theorem pd_gintE {x : Str} {i : Int} (hm : ∃ t, X.mg x = some (.int i t)) (hg : Gl X x := by rfl) (hd : (x == ("__debug__" : Str)) = false := by decide) : PD X Wx (.Name x pos) (mC (.int i)) := by
  obtain ⟨t, h⟩ := hm
  exact pd_gint hg h hd
theorem pd_gtupE {x : Str} {ds : List D} (hm : GTup X.K X.mg x ds) (hg : Gl X x := by rfl) (hd : (x == ("__debug__" : Str)) = false := by decide) : PD X Wx (.Name x pos) (mC (.tup ds)) := by
  obtain ⟨a, h, hk⟩ := hm
  exact pd_gtup hg h hk hd
/-! ## for, over what comes -/
theorem PI.or {tg e : Expr} {t t' : TI} (h : PI X tg e t) (h' : PI X tg e t') : PI X tg e (fun σ H R => t σ H R ∨ t' σ H R) := ⟨fun pins s σ H R I q => by
  rcases q with q | q
  · exact h.run pins s σ H R I q
  · exact h'.run pins s σ H R I q⟩
def iAny (m : EM) : IM := fun en st => mb (m en st) fun d st => match d with | .lst ds => .ok ds st | .tup ds => .ok ds st | .str z => .ok (signs z) st | _ => .bad
theorem pdi_any {tg e : Expr} {m : EM} (h : PD X Wx e m) : PDI X Wx tg e (iAny m) := ⟨PI.weak (PI.or (PI.or (pdi_lst (tg := tg) h).pi (pdi_tup (tg := tg) h).pi) (pdi_str (tg := tg) h).pi) fun σ H R ⟨W, en, e, ok, er, q⟩ => by
  subst e
  have q : PostI (cn X) Wx W σ R (mb (m en W.st) fun d st => match d with | .lst ds => .ok ds st | .tup ds => .ok ds st | .str z => .ok (signs z) st | _ => .bad) := q
  cases em : m en W.st with
  | bad => rw [em] at q; exact q.elim
  | err x st =>
    rw [em] at q
    refine .inl (.inl ⟨W, en, rfl, ok, er, ?_⟩)
    show PostI (cn X) Wx W σ R (mb (m en W.st) _)
    rw [em]; exact q
  | ok d st =>
    rw [em] at q
    cases d with
    | lst ds =>
      refine .inl (.inl ⟨W, en, rfl, ok, er, ?_⟩)
      show PostI (cn X) Wx W σ R (mb (m en W.st) _)
      rw [em]; exact q
    | tup ds =>
      refine .inl (.inr ⟨W, en, rfl, ok, er, ?_⟩)
      show PostI (cn X) Wx W σ R (mb (m en W.st) _)
      rw [em]; exact q
    | str ds =>
      refine .inr ⟨W, en, rfl, ok, er, ?_⟩
      show PostI (cn X) Wx W σ R (mb (m en W.st) _)
      rw [em]; exact q
    | _ => exact q.elim⟩
end
/-! ## levels -/
theorem FnG.zero {P : Program} {w : World} {K : PySem.W.Frag} {mg : Str → Option Value} {base : Heap} {k : Nat} {f : Addr} {fd : FuncData} {ps : List Str} : FnG P w K mg base k f fd ps (spD ⟨K, mg⟩ ps.length fun _ _ => .bad) :=
  ⟨fun vs H Q E ⟨W, ds, _, _, r, h, _⟩ => by rw [← r.length]; exact h, fun A outer s H args us vs Q E _ _ _ _ ⟨W, ds, _, _, _, _, q⟩ => q.elim⟩
theorem fun_da {K : PySem.W.Frag} {h : Heap} {mg : Str → Option Value} (X : K.In h) (G : h.Ns mainGlobals mg) {x : Str} {st : Stmt} {ps : List Str} {f : Addr} {oc : Value} {od an : Option Addr} {osl : Array (Option Value)} {kV doc pm cdv ct : Value}
    (a : PySem.W.nsIn K mainGlobals x = some (some (.ref f))) (l : K.lookup f = some ⟨oc, od, .func (PySem.W.fnOf x x (defArgs st) (defBody st) (defScope st) .none kV doc pm an cdv ct), osl⟩)
    (c : PySem.W.codeIn K cdv x = true) (k : PySem.W.keepIn K (.ref f) = true)
    (hb : ∀ (kV doc pm : Value) (an : Option Addr) (cdv ct : Value) (us : List Value), us.length = ps.length → bindArgs (PySem.W.fnOf x x (defArgs st) (defBody st) (defScope st) .none kV doc pm an cdv ct) ⟨us, []⟩ = pure (ps.zip us)) :
    DA K mg x st ps f (PySem.W.fnOf x x (defArgs st) (defBody st) (defScope st) .none kV doc pm an cdv ct) :=
  ⟨fun_mk l c k, PySem.W.mg_of X G a, k, (fun_mk l c k).binds hb⟩
theorem gtup_mk {K : PySem.W.Frag} {h : Heap} {mg : Str → Option Value} (X : K.In h) (G : h.Ns mainGlobals mg) {x : Str} {a : Addr} {od : Option Addr} {its : Array Value} {n : Nat} {osl : Array (Option Value)} {ds : List D} {xs : List V}
    (h1 : PySem.W.nsIn K mainGlobals x = some (some (.ref a))) (l : K.lookup a = some ⟨.type "tuple", od, .seq its n, osl⟩) (hz : its.size ≤ sizeLine) (hv : Vals xs its.toList) (hr : ∀ W, RepL ⟨K, mg⟩ W ds xs) : GTup K mg x ds :=
  ⟨a, PySem.W.mg_of X G h1, xs, ⟨_, its, n, l, rfl, rfl, hz, hv⟩, hr⟩
theorem strs_vals : ∀ {xs : List Str} {ts : List Tok}, xs.length = ts.length → Vals (xs.map V.str) ((xs.zip ts).map fun p => Value.str p.1 p.2)
  | [], _, _ => .nil
  | _ :: _, [], h => by cases h
  | x :: xs, t :: ts, h => .cons ⟨t, rfl⟩ (strs_vals (by simpa using h))
end Pd

namespace Pd
open PySem PySem.Spec L2
open PyProof.Rows hiding St
variable [Codes]
/-! ## one token is out (str.replace of written texts) -/
structure PDX (X : Cx) (Wx : WX) (e : Expr) (m : EM) : Prop where
  pe : PET X e (tD (cn X) Wx m)
structure PDAX (X : Cx) (Wx : WX) (es : List Expr) (m : LM) : Prop where
  pa : PAT X es (tDL (cn X) Wx m)
structure PDSX (X : Cx) (Wx : WX) (st : Stmt) (m : SM) : Prop where
  ps : PST X st (tDS (cn X) Wx m)
structure PDSsX (X : Cx) (Wx : WX) (st : List Stmt) (m : SM) : Prop where
  ps : PSsT X st (tDS (cn X) Wx m)
section
variable {X : Cx} {Wx : WX} {pos : Pos} {e a b : Expr} {es : List Expr} {m ma mb' : EM} {lm : LM} {st : Stmt} {rest : List Stmt} {sm sn : SM}
theorem PD.x (h : PD X Wx e m) : PDX X Wx e m := ⟨fun pins s σ H Q _ I q => h.pe.run pins s σ H Q I q⟩
theorem PDS.x (h : PDS X Wx st sm) : PDSX X Wx st sm := ⟨PST.of h.ps⟩
theorem PDSs.x (h : PDSs X Wx rest sm) : PDSsX X Wx rest sm := ⟨PSsT.of h.ps⟩
theorem PET.weak {t t' : TE} (h : PET X e t) (f : ∀ σ H Q, t' σ H Q → t σ H Q) : PET X e t' := fun pins s σ H Q h0 I q => h pins s σ H Q h0 I (f σ H Q q)
theorem PAT.weak {t t' : TA} (h : PAT X es t) (f : ∀ σ H Q, t' σ H Q → t σ H Q) : PAT X es t' := fun pos pins s σ H Q h0 I q => h pos pins s σ H Q h0 I (f σ H Q q)
def mRepl (y z : Str) (m : EM) : EM := fun en st => mb (m en st) fun d st => match d with | .str x => if x.length + (x.length + 1) * z.length ≤ 16777216 then .ok (.str (Txt.replace x y z)) st else .bad | _ => .bad
theorem pdx_repl {o : Expr} {y z : Str} {j k : Nat} {c0 c1 apos : Pos} (h : PD X Wx o m) (hyz : (y == z) = false := by decide)
    (hst : starEach [.Constant (.str y) j c0, .Constant (.str z) k c1] X.env = [(false, eval (.Constant (.str y) j c0) X.env), (false, eval (.Constant (.str z) k c1) X.env)] := by rfl)
    (hbase : attributeBase o "replace" X.env (eval o X.env) = eval o X.env := by rfl) (hline : (apos.endLine == pos.line) = true := by rfl) :
    PDX X Wx (.Call (.Attribute o "replace" apos) [.Constant (.str y) j c0, .Constant (.str z) k c1] [] pos) (mRepl y z m) :=
  ⟨PET.weak (CwR.pet_replC h.pe hyz hst hbase hline) fun σ H Q ⟨W, en, e, ok, er, q⟩ => by
    subst e
    refine seqE ok er q fun d W1 v ok1 e1 er1 r1 q1 => ?_
    cases d with
    | str x =>
      have q1 : PostE (cn X) Wx W1 σ Q (if x.length + (x.length + 1) * z.length ≤ 16777216 then .ok (.str (Txt.replace x y z)) W1.st else .bad) := q1
      by_cases c : x.length + (x.length + 1) * z.length ≤ 16777216
      · rw [if_pos c] at q1
        exact ⟨x, r1.str_inv, c, q1 W1 _ rfl ok1 (Ext.refl _) (.str _)⟩
      · rw [if_neg c] at q1; exact q1.elim
    | _ => exact q1.elim⟩
theorem pdax_nil : PDAX X Wx [] lNil := ⟨fun pos pins s σ H Q _ I q => pda_nil.pa.run pos pins s σ H Q I q⟩
theorem pdax_cons (h : PDAX X Wx es lm) (he : PDX X Wx e m) (hs : starEach (e :: es) X.env = (false, eval e X.env) :: starEach es X.env := by rfl) : PDAX X Wx (e :: es) (lCons m lm) :=
  ⟨PAT.weak (pat_cons he.pe h.pa hs) fun σ H Q ⟨W, en, e, ok, er, q⟩ => by
    subst e
    refine seqL ok er q fun d W1 v ok1 e1 er1 r1 q1 => ?_
    refine seqLL ok1 er1 q1 fun ds W2 vs ok2 e2 er2 r2 q2 => ?_
    exact q2 W2 _ rfl ok2 (Ext.refl _) (.cons (r1.ext e2) r2)⟩
theorem pdx_lst (h : PDAX X Wx es lm) : PDX X Wx (.List es pos) (mLst lm) := ⟨PET.weak (pet_lst h.pa) fun σ H Q ⟨W, en, e, ok, er, q⟩ => by
  subst e
  refine seqLE ok er q fun ds W1 vs ok1 e1 er1 r1 q1 => ?_
  by_cases hl : small ds.length = true
  · rw [if_pos hl] at q1
    refine ⟨by rw [← r1.length]; exact small_iff.mp hl, fun p hp => ?_⟩
    exact q1 (W1.lay p (.lst vs)) _ rfl (lay_ok ok1 hp _) (lay_ext ok1 hp _) (lay_lst ok1 hp r1)
  · rw [if_neg hl] at q1; exact q1.elim⟩
theorem pet_op {op : Operator} {r : R2} {ta tb : TE} (ho : OpR X (binaryOp op) r) (ha : PE X a ta) (hb : PET X b tb) : PET X (.BinOp a op b pos) (tOp r ta tb) := by
  intro pins s σ H Q h0 I h
  refine wpAny_BinOp (wpAny_mono (PySem.wpAny_toks (ha.run pins s σ H _ I h)) (fun v s1 q => ?_) fun _ _ z => z.2)
  obtain ⟨hk, x, H1, I1, r1, q1⟩ := q
  exact thn (hb pins s1 σ H1 _ (Nat.le_trans h0 hk) I1 q1) fun u s2 ⟨y, H2, I2, r2, q2⟩ => ho pins s2 σ H2 x y v u Q I2 r1 r2 q2
theorem pdx_op {op : Operator} {g : D → D → Sto → Option D} (ho : OpD X (binaryOp op) g) (ha : PD X Wx a ma) (hb : PDX X Wx b mb') : PDX X Wx (.BinOp a op b pos) (mOp g ma mb') :=
  ⟨PET.weak (pet_op ho ha.pe hb.pe) fun _ _ _ h => tOp_of (fun _ _ _ _ q => q) h⟩
theorem pdx_catC (ha : PD X Wx a ma) (hb : PDX X Wx b mb') : PDX X Wx (.BinOp a .Add b pos) (mOpC catD ma mb') :=
  ⟨PET.weak (pet_op op_cat ha.pe hb.pe) fun σ H Q ⟨W, en, e, ok, er, q⟩ => by
    subst e
    refine seqE ok er q fun x W1 v ok1 e1 er1 r1 q1 => ?_
    refine seqE ok1 er1 q1 fun y W2 u ok2 e2 er2 r2 q2 => ?_
    unfold catD at q2
    have r1 := r1.ext e2
    cases ex : deref W2.st x with
    | lst xs =>
      cases ey : deref W2.st y with
      | lst ys =>
        rw [ex, ey] at q2
        have q2 : PostE (cn X) Wx W2 σ Q (match (if small (xs.length + ys.length) = true then some (D.lst (xs ++ ys)) else none) with | some (.lst ds) => .ok (.cell W2.st.length) (W2.st ++ [.lst ds]) | _ => .bad) := q2
        by_cases c : small (xs.length + ys.length) = true
        · rw [if_pos c] at q2
          obtain ⟨p1, vs, rfl, z1, h1⟩ := lists_of ok2 r1 ex
          obtain ⟨p2, us, rfl, z2, h2⟩ := lists_of ok2 r2 ey
          refine ⟨p1, p2, vs, us, rfl, rfl, h1, h2, by rw [← z1.length, ← z2.length]; exact small_iff.mp c, fun p hp => ?_⟩
          exact q2 (W2.cel p (.lst (vs ++ us)) (.lst (xs ++ ys))) _ rfl (cel_lst_ok ok2 hp (z1.append z2)) (cel_ext ok2 hp _ _) (cel_rep ok2)
        · rw [if_neg c] at q2; exact q2.elim
      | _ => rw [ex, ey] at q2; exact q2.elim
    | _ => rw [ex] at q2; exact q2.elim⟩
theorem pdsx_set {i : Nat} {x : Str} {pos' : Pos} (he : PDX X Wx e m) (hN : X.N.Nodup) (hi : X.N[i]? = some x := by rfl) (hx : Loc X.env.scope x := by first | exact Or.inl rfl | exact Or.inr rfl) (hs : swapsWith e (some (.Name x pos')) pos.line X.env = pure false := by rfl)
    (hf : X.fn x = true ∨ X.env.scope.names.lookup x = some .local := by first | exact .inl rfl | exact .inr rfl) : PDSX X Wx (.Assign [.Name x pos'] e pos) (sSet i m) :=
  ⟨fun pins s σ H Dn h0 I ⟨W, en, e, ok, er, q⟩ => by
    subst e
    refine wpAny_Assign_Name (thn (he.pe pins s σ W.H (fun y H1 => Dn.nx (σ.set i (some y)) H1) h0 I ?_) fun v s1 ⟨y, H1, I1, r1, q1⟩ => ?_) hs
    · exact seqS ok er q fun d W1 v ok1 e1 er1 r1 q1 => q1 W1 _ rfl ok1 (Ext.refl _) (er1.set i r1)
    · exact store_ok I1 hN hi hx r1 (fun s2 I2 => ⟨_, H1, I2, q1⟩) hf⟩
theorem pdsx_cons (h1 : PDSX X Wx st sm) (h2 : PDSsX X Wx rest sn) : PDSsX X Wx (st :: rest) (sSeq sm sn) :=
  ⟨fun pins s σ H Dn h0 I h => psst_cons h1.ps h2.ps pins s σ H Dn h0 I (tDS_seq (t := fun _ _ _ => True) h)⟩
theorem pdsx_one (h1 : PDSX X Wx st sm) : PDSsX X Wx [st] sm :=
  ⟨fun pins s σ H Dn h0 I h => by
    refine wpAny_execs_cons (wpAny_mono (h1.ps pins s σ H Dn h0 I h) (fun f s1 q => ?_) fun _ _ x => x)
    cases f with
    | next =>
      obtain ⟨σ', H', I', q⟩ := q
      exact wpAny_execs_nil ⟨σ', H', I', q⟩
    | ret v => exact q
    | brk => exact q
    | cont => exact q⟩
/-- name = ["..", ..]: behind it a token is out -/
theorem pds_tok {i : Nat} {x c : Str} {j : Nat} {cpos pos' pos2 : Pos} (h : PDA X Wx es lm) (h2 : PDSsX X Wx rest sn) (hN : X.N.Nodup) (hi : X.N[i]? = some x := by rfl) (hx : Loc X.env.scope x := by first | exact Or.inl rfl | exact Or.inr rfl) (hs : swapsWith (.List (.Constant (.str c) j cpos :: es) pos2) (some (.Name x pos')) pos.line X.env = pure false := by rfl)
    (hf : X.fn x = true ∨ X.env.scope.names.lookup x = some .local := by first | exact .inl rfl | exact .inr rfl) :
    PDSs X Wx (.Assign [.Name x pos'] (.List (.Constant (.str c) j cpos :: es) pos2) pos :: rest) (sSeq (sSet i (mLst (lCons (mC (.str c)) lm))) sn) := by
  refine ⟨⟨fun pins s σ H Dn I h0 => ?_⟩⟩
  have h1 := tDS_seq (t := fun _ _ _ => True) h0
  obtain ⟨W, en, e, ok, er, q⟩ := h1
  subst e
  have q : PostS (cn X) Wx W { Dn with nx := tDS (cn X) Wx sn Dn } (smb (mb (lCons (mC (.str c)) lm en W.st) fun ds st => if small ds.length then .ok (.lst ds) st else .bad) en fun d st => .nx (en.set i (some d)) st) := q
  have rd : tDL (cn X) Wx lm σ W.H fun xs H2 => (xs.length + 1 ≤ sizeLine ∧ ∀ p, H2 p = none → tDS (cn X) Wx sn Dn (σ.set i (some (.ref p))) (upd H2 p (.lst (.str c :: xs)))) := by
    refine ⟨W, en, rfl, ok, er, ?_⟩
    have e1 : lCons (mC (.str c)) lm en W.st = mb (lm en W.st) fun ds st => .ok (.str c :: ds) st := rfl
    rw [e1] at q
    cases hl : lm en W.st with
    | bad => rw [hl] at q; exact q.elim
    | err y st => rw [hl] at q; exact fun W' cls dd h1 h2 h3 h4 => q W' σ cls dd h1 h2 h3 (er.ext h3) h4
    | ok ds st =>
      rw [hl] at q
      intro W2 vs hst ok2 e2 r2
      subst hst
      have q : PostS (cn X) Wx W { Dn with nx := tDS (cn X) Wx sn Dn } (smb (if small (D.str c :: ds).length = true then .ok (.lst (.str c :: ds)) W2.st else .bad) en fun d st => .nx (en.set i (some d)) st) := q
      by_cases hz : small (D.str c :: ds).length = true
      · rw [if_pos hz] at q
        have hz' := small_iff.mp hz
        rw [List.length_cons] at hz'
        refine ⟨by rw [← r2.length]; exact hz', fun p hp => ?_⟩
        have e3 := lay_ext ok2 hp (.lst (.str c :: vs))
        exact q (W2.lay p (.lst (.str c :: vs))) _ rfl (lay_ok ok2 hp _) (e2.trans e3) (((er.ext e2).ext e3).set i (lay_lst ok2 hp (.cons (.str c) r2)))
      · rw [if_neg hz] at q; exact q.elim
  refine wpAny_execs_cons (wpAny_Assign_Name ?_ hs)
  refine wpAny_List_spliced ?_
  show wpAny _ _ (spliced ((false, eval (.Constant (.str c) j cpos) X.env) :: backTo pos2 (starEach es X.env))) _ _ s
  refine Calls.spliced_cons (Calls.Constant_str ?_)
  refine wpAny_mono (PySem.wpAny_toks (h.pa.run pos2 pins { s with toks := s.toks + 1 } σ W.H _ (I.tok _) rd)) (fun us s1 q1 => ?_) fun _ _ z => z.2
  obtain ⟨hk, xs, H1, I1, r, z, q1⟩ := q1
  refine ⟨by rw [List.length_cons, ← r.length]; exact z, ?_⟩
  have hfr : H1 s1.heap.objs.size = none := I1.hok.fresh (Nat.le_refl _)
  have I2 : Inv X pins σ (upd H1 s1.heap.objs.size (.lst (.str c :: xs))) _ := I1.laid (t' := s1.toks) (fun b u e => Heap.get?_push_of_some _ e) (Nat.le_refl _) ⟨z, Value.str c s.toks :: us, 0, .cons ⟨_, rfl⟩ r, Heap.get?_push_size _ rfl⟩
  refine wpAny_mono (PySem.wpAny_toks (store_ok (v := V.ref s1.heap.objs.size) (Q := fun _ s2 => Inv X pins (σ.set i (some (V.ref s1.heap.objs.size))) (upd H1 s1.heap.objs.size (.lst (.str c :: xs))) s2) I2 hN hi hx rfl (fun _ I3 => I3) hf)) (fun _ s2 q2 => ?_) fun _ _ z => z.2
  have hk1 : s.toks + 1 ≤ s1.toks := hk
  have hk2 : s1.toks ≤ s2.toks := q2.1
  exact h2.ps pins s2 _ _ Dn (by omega) q2.2 (q1 _ hfr)
end
theorem blkc_of {X : Cx} {N : List Str} {sc scope : Scope} {own : List (Str × Nat)} (h1 : X.N = N) (h2 : X.env.scope = sc) (h : blkC N sc scope own = true) : blkC X.N X.env.scope scope own = true := by
  rw [h1, h2]; exact h
end Pd

namespace Pd
open PySem PySem.Spec L2
open PyProof.Rows hiding St
variable [Codes]
/-! ## an abstract heap without some cells, and with them again -/
def cutH (cs : List Addr) (H : Hp) : Hp := fun b => if b ∈ cs then none else H b
def addH (cs : List Addr) (G H : Hp) : Hp := fun b => if b ∈ cs then G b else H b
section
variable {cs : List Addr} {G H H' : Hp} {b : Addr} {h h' : Heap} {P : Program} {w : World} {fs : List Addr}
theorem cut_in (m : b ∈ cs) : cutH cs H b = none := if_pos m
theorem cut_out (m : b ∉ cs) : cutH cs H b = H b := if_neg m
theorem add_in (m : b ∈ cs) : addH cs G H b = G b := if_pos m
theorem add_out (m : b ∉ cs) : addH cs G H b = H b := if_neg m
theorem cut_some {o : HO} (e : cutH cs H b = some o) : b ∉ cs ∧ H b = some o := by
  by_cases m : b ∈ cs
  · rw [cut_in m] at e; cases e
  · rw [cut_out m] at e; exact ⟨m, e⟩
/-- at cs stand cells of captured names -/
def AllP (cs : List Addr) (H : Hp) : Prop := ∀ b ∈ cs, ∃ o, H b = some (PyC o)
theorem AllP.out (x : AllP cs H) {o : HO} (e : H b = some o) (k : isP o = false) : b ∉ cs := fun m => by
  obtain ⟨u, z⟩ := x b m
  rw [e] at z; cases z; cases k
theorem hok_cut (x : HOk P w H h) (p : AllP cs H) : HOk P w (cutH cs H) h := fun a o e => by
  obtain ⟨m, e⟩ := cut_some e
  exact (x a o e).stay (fun _ _ _ q => q) (fun c q => by rw [cut_out (p.out q rfl)]; exact q) (fun c xs q => by rw [cut_out (p.out q rfl)]; exact q)
theorem hok_add (x : HOk P w H h) (n : ∀ b ∈ cs, H b = none) (g : ∀ b ∈ cs, ∃ o, G b = some (PyC o) ∧ h.get? b = some o) : HOk P w (addH cs G H) h := fun a o e => by
  have nn : ∀ {c : Addr} {u : HO}, H c = some u → c ∉ cs := fun q m => by rw [n _ m] at q; cases q
  by_cases m : a ∈ cs
  · rw [add_in m] at e
    obtain ⟨u, z, q⟩ := g a m
    rw [e] at z; cases z
    exact ⟨q, u, q⟩
  · rw [add_out m] at e
    exact (x a o e).stay (fun _ _ _ q => q) (fun c q => by rw [add_out (nn q)]; exact q) (fun c xs q => by rw [add_out (nn q)]; exact q)
/-- behind a run without them -/
theorem un_add (u : Un fs [] (cutH cs H) H' h h') (p : AllP cs H) : Un fs [] H (addH cs H H') h h' := by
  have cn : ∀ {c : Addr}, H c = none → c ∉ cs ∧ cutH cs H c = none := fun {c} q => by
    have m : c ∉ cs := fun m => by obtain ⟨o, z⟩ := p c m; rw [q] at z; cases z
    exact ⟨m, by rw [cut_out m]; exact q⟩
  have cp : ∀ {c : Addr} {o : HO}, H c = some o → isP o = false → c ∉ cs ∧ cutH cs H c = some o := fun q k => ⟨p.out q k, by rw [cut_out (p.out q k)]; exact q⟩
  refine ⟨fun c o e n => u.keep c o e (cn n).2, fun c o e n => u.slot c o e (cn n).2, fun c o e n m => ?_, u.there, fun c xs e => ?_, fun c o x e => ?_, fun c ps e => ?_⟩
  · rw [add_out (cn n).1]; exact u.free c o e (cn n).2 m
  · obtain ⟨m, z⟩ := cp e rfl
    rw [add_out m]; exact u.tups c xs z
  · by_cases m : c ∈ cs
    · rw [add_in m]; exact e
    · rw [add_out m]; exact u.frzs c o x (by rw [cut_out m]; exact e)
  · obtain ⟨m, z⟩ := cp e rfl
    rw [add_out m]; exact u.tbls c ps z
/-- behind a run with them -/
theorem un_cut (u : Un fs [] (addH cs G H) H' h h') (n : ∀ b ∈ cs, H b = none) (s : ∀ b ∈ cs, ∀ o, h.get? b = some o → h'.get? b = some o) : Un fs [] H (cutH cs H') h h' := by
  have nn : ∀ {c : Addr} {o : HO}, H c = some o → c ∉ cs ∧ addH cs G H c = some o := fun {c o} q => by
    have m : c ∉ cs := fun m => by rw [n _ m] at q; cases q
    exact ⟨m, by rw [add_out m]; exact q⟩
  refine ⟨fun c o e k hf hx => ?_, fun c o e k hf hx => ?_, fun c o e k hx => ?_, u.there, fun c xs e => ?_, fun c o x e => ?_, fun c ps e => ?_⟩
  · by_cases m : c ∈ cs
    · exact s c m o e
    · exact u.keep c o e (by rw [add_out m]; exact k) hf hx
  · by_cases m : c ∈ cs
    · exact ⟨o.slots, s c m o e⟩
    · exact u.slot c o e (by rw [add_out m]; exact k) hf hx
  · by_cases m : c ∈ cs
    · exact cut_in m
    · rw [cut_out m]; exact u.free c o e (by rw [add_out m]; exact k) hx
  · obtain ⟨m, z⟩ := nn e
    rw [cut_out m]; exact u.tups c xs z
  · obtain ⟨m, z⟩ := nn e
    rw [cut_out m]; exact u.frzs c o x z
  · obtain ⟨m, z⟩ := nn e
    rw [cut_out m]; exact u.tbls c ps z
end
/-! ## worlds: a function's cells are let go while it runs -/
section
variable {C : Cn} {W W' : Wd}
abbrev csOf (W : Wd) (n : Nat) : List Addr := (W.pc n).1.map (·.2)
theorem CapT.all : ∀ {cl : List (Str × Addr)} {ds : List D}, CapT C W cl ds → AllP (cl.map (·.2)) W.H
  | [], _, _ => fun b h => by cases h
  | p :: cl, ds, h => fun b hb => by
    unfold CapT at h
    obtain ⟨d, r, o, u, v, e, h1, h2, h3, h4, h5⟩ := h
    rcases List.mem_cons.mp hb with z | z
    · rw [z]; exact ⟨o, h1⟩
    · exact CapT.all h5 b z
theorem WOk.idx (ok : WOk C W) {a : Addr} (h : a ∈ W.A) : ∃ (n : Nat) (c : Cel), W.A[n]? = some a ∧ W.st[n]? = some c := by
  obtain ⟨n, hn, e⟩ := List.getElem_of_mem h
  have h2 : n < W.st.length := by rw [← ok.len]; exact hn
  exact ⟨n, W.st[n], List.getElem?_eq_some_iff.mpr ⟨hn, e⟩, List.getElem?_eq_getElem h2⟩
theorem WOk.trk (ok : WOk C W) {a : Addr} (h : a ∈ W.A) : Trk W.H a := by
  obtain ⟨n, c, h1, h2⟩ := ok.idx h
  have q := ok.at_ n a c h1 h2
  cases c with
  | lst ds => obtain ⟨xs, e, _⟩ := q; exact ⟨_, e, rfl⟩
  | dct ks ds => obtain ⟨xs, e, _⟩ := q; exact ⟨_, e, rfl⟩
  | dead => exact q
  | ins x fs => obtain ⟨_, _, xs, _, e, _⟩ := q; exact ⟨_, e, rfl⟩
  | clo i ws up =>
    obtain ⟨φ, eφ⟩ := Codes.ext i a (W.pc n).1 (W.pc n).2
    have e := q.1
    rw [eφ] at e
    exact ⟨_, e, rfl⟩
def Wd.opn (W : Wd) (n i : Nat) (ws : List D) : Wd := { W with H := cutH (csOf W n) W.H, st := W.st.set n (.clo i ws true) }
variable {n i : Nat} {ws : List D} {f : Addr}
theorem WOk.allP (ok : WOk C W) (hA : W.A[n]? = some f) (hs : W.st[n]? = some (.clo i ws false)) : AllP (csOf W n) W.H := ((ok.at_ n f _ hA hs).2.2.2.2 rfl).all
theorem opn_live (hs : W.st[n]? = some (.clo i ws false)) {a : Addr} (h : CLive (W.opn n i ws) a) : CLive W a := by
  obtain ⟨m, c, h1, h2, h3⟩ := h
  have h2 : (W.st.set n (.clo i ws true))[m]? = some c := h2
  by_cases z : n = m
  · subst z; exact ⟨n, _, h1, hs, nofun⟩
  · rw [List.getElem?_set_ne z] at h2; exact ⟨m, c, h1, h2, h3⟩
theorem opn_mn (ok : WOk C W) (hA : W.A[n]? = some f) (hs : W.st[n]? = some (.clo i ws false)) : Mn W (W.opn n i ws) :=
  ⟨List.prefix_refl _, fun a o h hn nl => ⟨by
    show cutH (csOf W n) W.H a = some o
    rw [cut_out ((ok.allP hA hs).out h (isP_nX hn))]; exact h, fun z => by
    rcases z with z | z
    · exact nl (.inl (opn_live hs z))
    · exact nl (.inr z)⟩⟩
theorem opn_ok (ok : WOk C W) (hA : W.A[n]? = some f) (hs : W.st[n]? = some (.clo i ws false)) : WOk C (W.opn n i ws) := by
  have p := ok.allP hA hs
  have hn : n < W.st.length := (List.getElem?_eq_some_iff.mp hs).1
  have hX : ∀ b o, W.H b = some o → isP o = false → cutH (csOf W n) W.H b = some o := fun b o h k => by rw [cut_out (p.out h k)]; exact h
  have ht : ∀ a, Trk W.H a → Trk (cutH (csOf W n) W.H) a := fun a ⟨o, e, k⟩ => ⟨o, hX a o e (plO_isP k), k⟩
  have m := opn_mn ok hA hs
  refine ⟨?_, ok.nd, fun k a c h1 h2 => ?_, fun a h => ht a (ok.hidT a h), tabs_mv ok.tabs (fun b o h _ k => hX b o h k), fun k j c d hk h1 h2 u1 u2 => ?_, ok.hidA⟩
  · show W.A.length = (W.st.set n _).length
    rw [List.length_set]; exact ok.len
  · have h1 : W.A[k]? = some a := h1
    have h2 : (W.st.set n (.clo i ws true))[k]? = some c := h2
    by_cases z : n = k
    · subst z
      rw [List.getElem?_set_self hn] at h2; cases h2
      have q := (ok.at_ n a _ h1 hs)
      obtain ⟨φ, eφ⟩ := Codes.ext i a (W.pc n).1 (W.pc n).2
      refine ⟨?_, hX _ _ q.2.1 rfl, q.2.2.1, q.2.2.2.1, nofun⟩
      have e := q.1
      show _ = some (Codes.ho i a (W.pc n).1 (W.pc n).2)
      rw [eφ] at e ⊢
      exact hX _ _ e rfl
    · rw [List.getElem?_set_ne z] at h2
      refine (ok.at_ k a c h1 h2).mv m (fun b o h _ k _ => hX b o h k) (fun u b hb o h _ => ?_) (fun hb => ?_) (ht a)
      · show cutH (csOf W n) W.H b = some o
        rw [cut_out (ok.pcd k n c _ (Ne.symm z) h2 hs u rfl b hb)]; exact h
      · obtain ⟨o, e, q⟩ := (ok.at_ k a c h1 h2).boxO hb
        show cutH (csOf W n) W.H a = _
        rw [cut_out (p.out e (isP_nX q))]
  · have h1 : (W.st.set n (.clo i ws true))[k]? = some c := h1
    have h2 : (W.st.set n (.clo i ws true))[j]? = some d := h2
    have nk : n ≠ k := fun z => by subst z; rw [List.getElem?_set_self hn] at h1; cases h1; cases u1
    have nj : n ≠ j := fun z => by subst z; rw [List.getElem?_set_self hn] at h2; cases h2; cases u2
    rw [List.getElem?_set_ne nk] at h1
    rw [List.getElem?_set_ne nj] at h2
    exact ok.pcd k j c d hk h1 h2 u1 u2
/-- .. and told of again -/
def Wd.cls (W W' : Wd) (n i : Nat) (ws : List D) : Wd := { W' with H := addH (csOf W n) W.H W'.H, st := W'.st.set n (.clo i ws false) }
theorem cls_ext (ok : WOk C W) (hA : W.A[n]? = some f) (hs : W.st[n]? = some (.clo i ws false)) (ok' : WOk C W') (e : Ext (W.opn n i ws) W') (hn : ∀ b ∈ csOf W n, W'.H b = none) (hs' : W'.st[n]? = some (.clo i ws true)) : Ext W (W.cls W' n i ws) := by
  have p := ok.allP hA hs
  have na : ∀ {a : Addr}, a ∈ W'.A → a ∉ csOf W n := fun h m => (ok'.trk h).ne (hn _ m)
  have lv : ∀ {a : Addr}, CLive (W.cls W' n i ws) a → CLive W' a := fun {a} ⟨m, c, h1, h2, h3⟩ => by
    have h2 : (W'.st.set n (.clo i ws false))[m]? = some c := h2
    by_cases z : n = m
    · subst z; exact ⟨n, _, h1, hs', nofun⟩
    · rw [List.getElem?_set_ne z] at h2; exact ⟨m, c, h1, h2, h3⟩
  refine ⟨e.pre, e.hid, fun a o h hT nl => ?_, fun a h => ?_, e.pc, fun a h => ?_⟩
  · by_cases m : a ∈ csOf W n
    · exact ⟨by show addH _ _ _ a = _; rw [add_in m]; exact h, fun z => na (lv z).mem m⟩
    · obtain ⟨q1, q2⟩ := e.keep a o (by show cutH _ _ a = _; rw [cut_out m]; exact h) hT fun z => nl (opn_live hs z)
      exact ⟨by show addH _ _ _ a = _; rw [add_out m]; exact q1, fun z => q2 (lv z)⟩
  · rcases e.new a h with z | z
    · exact .inl z
    · refine .inr fun o e1 => ?_
      by_cases m : a ∈ csOf W n
      · exact absurd m (na h)
      · exact z o (by show cutH _ _ a = _; rw [cut_out m]; exact e1)
  · have h : addH (csOf W n) W.H W'.H a = none := h
    by_cases m : a ∈ csOf W n
    · rw [add_in m] at h; exact h
    · rw [add_out m] at h
      have q : cutH (csOf W n) W.H a = none := e.tr a h
      rw [cut_out m] at q; exact q
theorem cls_mn (ok' : WOk C W') (hn : ∀ b ∈ csOf W n, W'.H b = none) (hs' : W'.st[n]? = some (.clo i ws true)) : Mn W' (W.cls W' n i ws) :=
  ⟨List.prefix_refl _, fun a o h _ nl => ⟨by
    show addH _ _ _ a = _
    rw [add_out fun m => by rw [hn a m] at h; cases h]; exact h, fun z => by
    rcases z with ⟨m, c, h1, h2, h3⟩ | z
    · have h2 : (W'.st.set n (.clo i ws false))[m]? = some c := h2
      by_cases y : n = m
      · subst y; exact nl (.inl ⟨n, _, h1, hs', nofun⟩)
      · rw [List.getElem?_set_ne y] at h2; exact nl (.inl ⟨m, c, h1, h2, h3⟩)
    · exact nl (.inr z)⟩⟩
theorem cls_ok (ok : WOk C W) (hA : W.A[n]? = some f) (hs : W.st[n]? = some (.clo i ws false)) (ok' : WOk C W') (e : Ext (W.opn n i ws) W') (hn : ∀ b ∈ csOf W n, W'.H b = none) (hs' : W'.st[n]? = some (.clo i ws true)) : WOk C (W.cls W' n i ws) := by
  have ee := cls_ext ok hA hs ok' e hn hs'
  have m := cls_mn ok' hn hs'
  have p := ok.allP hA hs
  have hl : n < W'.st.length := (List.getElem?_eq_some_iff.mp hs').1
  have hpc : W'.pc n = W.pc n := e.pc n (by rw [show (W.opn n i ws).A = W.A from rfl]; exact (List.getElem?_eq_some_iff.mp hA).1)
  have hX : ∀ b o, W'.H b = some o → addH (csOf W n) W.H W'.H b = some o := fun b o h => by rw [add_out fun m => by rw [hn b m] at h; cases h]; exact h
  have ht : ∀ a, Trk W'.H a → Trk (addH (csOf W n) W.H W'.H) a := fun a ⟨o, q, k⟩ => ⟨o, hX a o q, k⟩
  have apart : ∀ (k : Nat) (c : Cel) (a : Addr), W'.A[k]? = some a → W'.st[k]? = some c → c.up = true → ∀ b ∈ csOf W' k, b ∉ csOf W n := fun k c a h1 h2 u b hb m => by
    cases c with
    | clo j us up =>
      cases up with
      | false =>
        obtain ⟨o, z⟩ := ok'.allP h1 h2 b hb
        rw [hn b m] at z; cases z
      | true => cases u
    | _ => cases u
  have at' : ∀ {k : Nat} {c : Cel}, W'.st[k]? = some c → ∃ a, W'.A[k]? = some a := fun {k c} h => by
    have : k < W'.A.length := by rw [ok'.len]; exact (List.getElem?_eq_some_iff.mp h).1
    exact ⟨_, List.getElem?_eq_getElem this⟩
  refine ⟨?_, ok'.nd, fun k a c h1 h2 => ?_, fun a h => ht a (ok'.hidT a h), tabs_mv ok'.tabs (fun b o h _ _ => hX b o h), fun k j c d hk h1 h2 u1 u2 => ?_, ok'.hidA⟩
  · show W'.A.length = (W'.st.set n _).length
    rw [List.length_set]; exact ok'.len
  · have h1 : W'.A[k]? = some a := h1
    have h2 : (W'.st.set n (.clo i ws false))[k]? = some c := h2
    by_cases z : n = k
    · subst z
      rw [List.getElem?_set_self hl] at h2; cases h2
      have q := ok'.at_ n a _ h1 hs'
      refine ⟨hX _ _ q.1, hX _ _ q.2.1, q.2.2.1, q.2.2.2.1, fun _ => ?_⟩
      show CapT C _ (W'.pc n).1 ws
      rw [hpc]
      exact ((ok.at_ n f _ hA hs).2.2.2.2 rfl).mv ee.mn fun b hb o h _ => by
        show addH _ _ _ b = _
        rw [add_in hb]; exact h
    · rw [List.getElem?_set_ne z] at h2
      exact (ok'.at_ k a c h1 h2).mv m (fun b o h _ _ _ => hX b o h) (fun u b hb o h _ => hX b o h) (fun hb => by
        obtain ⟨o, q, _⟩ := (ok'.at_ k a c h1 h2).boxO hb
        show addH _ _ _ a = _
        rw [hX a o q, q]) (ht a)
  · have h1 : (W'.st.set n (.clo i ws false))[k]? = some c := h1
    have h2 : (W'.st.set n (.clo i ws false))[j]? = some d := h2
    by_cases y : n = k
    · subst y
      rw [List.getElem?_set_ne hk] at h2
      obtain ⟨a, ha⟩ := at' h2
      intro b hb hb2
      have hb : b ∈ csOf W' n := hb
      unfold csOf at hb
      rw [hpc] at hb
      exact apart j d a ha h2 u2 b hb2 hb
    · rw [List.getElem?_set_ne y] at h1
      by_cases y2 : n = j
      · subst y2
        obtain ⟨a, ha⟩ := at' h1
        intro b hb hb2
        have hb2 : b ∈ csOf W' n := hb2
        unfold csOf at hb2
        rw [hpc] at hb2
        exact apart k c a ha h1 u1 b hb hb2
      · rw [List.getElem?_set_ne y2] at h2
        exact ok'.pcd k j c d hk h1 h2 u1 u2
end
end Pd

namespace Pd
open PySem PySem.Spec L2
open PyProof.Rows hiding St
variable [Codes]
/-! ## functions that are made within defs: what a call of one promises -/
open Classical in
noncomputable def shut (n i : Nat) (ws : List D) (o : Out D) : Out D := match o with
  | .ok d st' => if st'[n]? = some (.clo i ws true) then .ok d (st'.set n (.clo i ws false)) else .bad
  | _ => .bad
theorem shut_ok {n i : Nat} {ws : List D} {d : D} {st : Sto} (c : st[n]? = some (.clo i ws true)) : shut n i ws (.ok d st) = .ok d (st.set n (.clo i ws false)) := if_pos c
theorem shut_no {n i : Nat} {ws : List D} {d : D} {st : Sto} (c : ¬ st[n]? = some (.clo i ws true)) : shut n i ws (.ok d st) = .bad := if_neg c
/-- called while its captured cells are told of: they are let go while it runs -/
noncomputable def cloM (G : FM) (n i : Nat) (ws ds : List D) (st : Sto) : Out D := shut n i ws (G (ds ++ ws) (st.set n (.clo i ws true)))
def InPost (K : PySem.W.Frag) (mg : Str → Option Value) (W : Wd) (o : Out D) (v : V) (H' : Hp) : Prop := ∃ W' d, W'.H = H' ∧ WOk ⟨K, mg⟩ W' ∧ Ext W W' ∧ Rep ⟨K, mg⟩ W' d v ∧ o = .ok d W'.st
structure CloG (P : Program) (w : World) (K : PySem.W.Frag) (mg : Str → Option Value) (base : Heap) (k i : Nat) (ps : List Str) (G : FM) : Prop where
  fat : ∀ f cl c φ (h : Heap), Codes.ho i f cl c = .ext φ → φ h → PySem.W.FnAt f h
  run : ∀ (A : Around) (outer : List Env) (s : Shared) (f : Addr) (us : List Value) (vs : List V) (W : Wd) (n : Nat) (ws ds : List D) (Q : VK) (E : XK), RG k A → Env0 P w K mg base A outer s W.H → WOk ⟨K, mg⟩ W → W.A[n]? = some f → W.st[n]? = some (.clo i ws false) →
    RepL ⟨K, mg⟩ W ds vs → ds.length = ps.length → Vals vs us → PostF ⟨K, mg⟩ E W Q (cloM G n i ws ds W.st) → codeAny (model P w) A (.call (.ref f) ⟨us, []⟩) (CR (L2.CX P w) outer P w W.H s Q E) s
section
variable {P : Program} {w : World} {K : PySem.W.Frag} {mg : Str → Option Value} {base : Heap} {k i : Nat} {N ps fr : List Str} {name qual : Str} {params : Arguments} {scope : Scope}
theorem CloG.mono {j : Nat} {G : FM} (F : CloG P w K mg base j i ps G) (h : j ≤ k) : CloG P w K mg base k i ps G :=
  ⟨F.fat, fun A outer s f us vs W n ws ds Q E hr => F.run A outer s f us vs W n ws ds Q E (hr.mono h)⟩
/-- what the cells hold -/
theorem caps_vals {C : Cn} {W : Wd} {h : Heap} (hok : HOk P w W.H h) : ∀ {cl : List (Str × Addr)} {ds : List D}, CapT C W cl ds → ∃ us : List V, RepL C W ds us ∧ us.length = cl.length ∧ ∀ (j : Nat) (p : Str × Addr) (v : V), cl[j]? = some p → us[j]? = some v → ∃ u, RelV v u ∧ h.IsCell p.2 (some u)
  | [], ds, hc => by
    unfold CapT at hc; subst hc
    exact ⟨[], .nil, rfl, fun j p v z => by simp at z⟩
  | p :: cl, ds, hc => by
    unfold CapT at hc
    obtain ⟨d, r, o, u, v, rfl, h1, h2, h3, h4, h5⟩ := hc
    obtain ⟨us, q1, q2, q3⟩ := caps_vals hok h5
    refine ⟨v :: us, .cons h4 q1, by rw [List.length_cons, List.length_cons, q2], fun j p' v' e1 e2 => ?_⟩
    cases j with
    | zero =>
      cases e1; cases e2
      exact ⟨u, h3, o, (hok p.2 _ h1).1, h2⟩
    | succ j => exact q3 j p' v' e1 e2
theorem look_at : ∀ {cl : List (Str × Addr)} {j : Nat} {p : Str × Addr}, (cl.map (·.1)).Nodup → cl[j]? = some p → cl.lookup p.1 = some p.2
  | [], j, p, _, h => by simp at h
  | q :: cl, 0, p, nd, h => by cases h; simp [List.lookup]
  | q :: cl, j + 1, p, nd, h => by
    have h : cl[j]? = some p := h
    rw [List.map_cons, List.nodup_cons] at nd
    have ne : (p.1 == q.1) = false := by
      rw [beq_eq_false_iff_ne]
      intro z
      exact nd.1 (z ▸ List.mem_map_of_mem (f := (·.1)) (List.mem_of_getElem? h))
    simp only [List.lookup, ne]
    exact look_at nd.2 h
theorem look_mem : ∀ {cl : List (Str × Addr)} {x : Str} {c : Addr}, cl.lookup x = some c → (x, c) ∈ cl
  | q :: cl, x, c, h => by
    simp only [List.lookup] at h
    split at h
    · rename_i e
      cases h
      rw [beq_iff_eq] at e
      rw [e]; exact List.mem_cons_self
    · exact List.mem_cons_of_mem _ (look_mem h)
theorem look_inj {cl : List (Str × Addr)} (nd : (cl.map (·.2)).Nodup) {x y : Str} {c : Addr} (hx : cl.lookup x = some c) (hy : cl.lookup y = some c) : x = y := by
  have h1 := look_mem hx
  have h2 := look_mem hy
  clear hx hy
  induction cl with
  | nil => cases h1
  | cons q cl ih =>
    rw [List.map_cons, List.nodup_cons] at nd
    rcases List.mem_cons.mp h1 with z1 | z1 <;> rcases List.mem_cons.mp h2 with z2 | z2
    · rw [← z1] at z2; exact (Prod.mk.inj z2).1.symm
    · exact absurd (List.mem_map_of_mem (f := (·.2)) z2) (by rw [← z1] at nd; exact nd.1)
    · exact absurd (List.mem_map_of_mem (f := (·.2)) z1) (by rw [← z2] at nd; exact nd.1)
    · exact ih nd.2 z1 z2
theorem env0_opn {A : Around} {outer : List Env} {s : Shared} {H : Hp} {cs : List Addr} (e : Env0 P w K mg base A outer s H) (p : AllP cs H) : Env0 P w K mg base A outer s (cutH cs H) := by
  have cut0 : ∀ {b}, H b = none → cutH cs H b = none := fun {b} q => by
    by_cases m : b ∈ cs
    · exact cut_in m
    · rw [cut_out m]; exact q
  exact ⟨e.frames, e.mod, fun b o q => ⟨(e.bs b o q).1, cut0 (e.bs b o q).2⟩, e.bsz, e.funs, fun b q => cut0 (e.frf b q), hok_cut e.hok p, e.bare⟩
def noX : XK := fun _ _ _ => False
theorem noX_leave {outer : List Env} {H : Hp} {s : Shared} {M : Model} {A : Around} {env : Env} {e : Value} {s' : Shared} {R : Value → Shared → Prop}
    (h : wpAny M A (leaving env e) (fun _ s'' => L2.CX P w outer H s noX e s'') (fun e' s'' => L2.CX P w outer H s noX e' s'') s') : wpAny M A (leaving env e) (fun _ s'' => R e s'') (fun e' s'' => R e' s'') s' :=
  wpAny_mono h (fun _ _ z => by obtain ⟨_, _, _, _, _, _, _, _, _, _, _, _, z⟩ := z; exact z.elim) (fun _ _ z => by obtain ⟨_, _, _, _, _, _, _, _, _, _, _, _, z⟩ := z; exact z.elim)
abbrev nfOf (name qual : Str) (params : Arguments) (scope : Scope) (cl : List (Str × Addr)) (c : Addr) (body : List Stmt) : NdefX.NF := ⟨name, qual, params, body, scope, cl, c⟩
abbrev inCx (P : Program) (w : World) (K : PySem.W.Frag) (mg : Str → Option Value) (base : Heap) (N : List Str) (F : NdefX.NF) (f : Addr) (A : Around) (outer : List Env) (s : Shared) (H : Hp) : Cx := NdefX.ncx (L2.CX P w) P w K mg base N F f A outer s H noX
/-- what is asked of a made function's names -/
structure InS (i : Nat) (N ps : List Str) (scope : Scope) : Prop where
  sc : NdefX.NScope N ps (Codes.fr i) scope
/-- the entry of its body, for defs and lambdas -/
theorem in_start {name qual : Str} {params : Arguments} {body : List Stmt} {A : Around} {outer : List Env} {s : Shared} {f : Addr} {us : List Value} {vs : List V} {W : Wd} {n : Nat} {ws ds : List D} (S : NdefX.NScope N ps (Codes.fr i) scope)
    (hd : A.handled = none) (e0 : Env0 P w K mg base A outer s W.H) (ok : WOk ⟨K, mg⟩ W) (hA : W.A[n]? = some f) (hs : W.st[n]? = some (.clo i ws false)) (r : RepL ⟨K, mg⟩ W ds vs) (hl : ds.length = ps.length) (rv : Vals vs us)
    {h₁ : Heap} {tk : Nat} (hns : h₁.Ns s.heap.objs.size fun y => (ps.zip us).reverse.lookup y) (kp : ∀ b o, s.heap.get? b = some o → h₁.get? b = some o) :
    ∃ σ, Inv (inCx P w K mg base N (nfOf name qual params scope (W.pc n).1 (W.pc n).2 body) f A outer s (W.opn n i ws).H) [] σ (W.opn n i ws).H { s with heap := h₁, toks := tk } ∧
      EnvR ⟨K, mg⟩ (W.opn n i ws) σ ((ds ++ ws).map some ++ List.replicate (N.length - (ds ++ ws).length) none) := by
  obtain ⟨c1, c2, c3, c4, c5⟩ := ok.at_ n f _ hA hs
  obtain ⟨vs2, q1, q2, q3⟩ := caps_vals e0.hok (c5 rfl)
  have p := ok.allP hA hs
  have hfr : (Codes.fr i).Nodup := by
    have q := S.nd.sublist (List.take_sublist (ps.length + (Codes.fr i).length) N)
    rw [S.pre] at q
    exact (List.nodup_append.mp q).2.1
  have hcl : (W.pc n).1.length = (Codes.fr i).length := by rw [← c3, List.length_map]
  have nd1 : ((W.pc n).1.map (·.1)).Nodup := by rw [c3]; exact hfr
  have CA : NdefX.CellsAt (W.pc n).1 (Codes.fr i) (vs2.map some) s.heap (W.opn n i ws).H := by
    refine ⟨by rw [List.length_map, q2, hcl], fun y c e => ?_, fun x y c h1 h2 => look_inj c4 h1 h2, fun j y e => ?_⟩
    · have m := look_mem e
      have mc : c ∈ csOf W n := List.mem_map_of_mem (f := (·.2)) m
      refine ⟨cut_in mc, ?_⟩
      obtain ⟨j, hj⟩ := List.mem_iff_getElem?.mp m
      have : j < vs2.length := by rw [q2]; exact (List.getElem?_eq_some_iff.mp hj).1
      obtain ⟨u, _, z⟩ := q3 j _ _ hj (List.getElem?_eq_getElem this)
      exact ⟨_, z⟩
    · rw [← c3, List.getElem?_map] at e
      cases ej : (W.pc n).1[j]? with
      | none => rw [ej] at e; cases e
      | some q =>
        rw [ej] at e; cases e
        refine ⟨q.2, look_at nd1 ej, fun v hv => ?_⟩
        rw [List.getElem?_map] at hv
        cases ev : vs2[j]? with
        | none => rw [ev] at hv; cases hv
        | some v' => rw [ev] at hv; cases hv; exact q3 j q _ ej ev
  have lvs : vs.length = ps.length := by rw [← r.length]; exact hl
  refine ⟨_, NdefX.inv_startN (CX := L2.CX P w) (E := noX) S hd (env0_opn e0 p) lvs rv CA hns kp, ?_⟩
  have m := opn_mn ok hA hs
  have rr : RepL ⟨K, mg⟩ (W.opn n i ws) (ds ++ ws) (vs ++ vs2) := (r.mn m).append (q1.mn m)
  have z := start_env (N := N) rr
  have e : NdefX.startF N vs (vs2.map some) = L2.start N (vs ++ vs2) := by
    unfold NdefX.startF L2.start
    rw [List.map_append, List.append_assoc, List.length_map, List.length_append, Nat.sub_sub]
  rw [e]
  exact z
/-- the end of its body -/
theorem in_end {name qual : Str} {params : Arguments} {body : List Stmt} {A : Around} {outer : List Env} {s s' : Shared} {f : Addr} {W : Wd} {n : Nat} {ws ds : List D} {Q : VK} {E : XK} {G : FM} {σ : St} {H' : Hp} {v : V} {u : Value}
    (e0 : Env0 P w K mg base A outer s W.H) (ok : WOk ⟨K, mg⟩ W) (hA : W.A[n]? = some f) (hs : W.st[n]? = some (.clo i ws false)) (q : PostF ⟨K, mg⟩ E W Q (cloM G n i ws ds W.st))
    (J : Inv (inCx P w K mg base N (nfOf name qual params scope (W.pc n).1 (W.pc n).2 body) f A outer s (W.opn n i ws).H) [] σ H' s') (rv : RelV v u)
    (h : InPost K mg (W.opn n i ws) (G (ds ++ ws) (W.opn n i ws).st) v H') : CE outer P w W.H s Q u s' := by
  obtain ⟨W', d, rfl, ok', e, rd, hG⟩ := h
  have p := ok.allP hA hs
  have un : Un (frs outer) [] (cutH (csOf W n) W.H) W'.H s.heap s'.heap := J.base
  have there : ∀ b ∈ csOf W n, ∃ o, W.H b = some (PyC o) ∧ s.heap.get? b = some o := fun b hb => by
    obtain ⟨o, z⟩ := p b hb
    exact ⟨o, z, (e0.hok b _ z).1⟩
  have hn : ∀ b ∈ csOf W n, W'.H b = none := fun b hb => by
    obtain ⟨o, _, z⟩ := there b hb
    exact un.free b o z (cut_in hb) (by simp)
  have hk : ∀ b ∈ csOf W n, ∃ o, W.H b = some (PyC o) ∧ s'.heap.get? b = some o := fun b hb => by
    obtain ⟨o, z1, z⟩ := there b hb
    refine ⟨o, z1, un.keep b o z (cut_in hb) (fun m => ?_) (by simp)⟩
    rw [e0.frf b m] at z1; cases z1
  have q : PostF ⟨K, mg⟩ E W Q (shut n i ws (G (ds ++ ws) (W.opn n i ws).st)) := q
  rw [hG] at q
  by_cases c : W'.st[n]? = some (.clo i ws true)
  · rw [shut_ok c] at q
    exact ⟨v, addH (csOf W n) W.H W'.H, J.os, J.bare, un_add un p, hok_add J.hok hn hk, rv,
      q (W.cls W' n i ws) v rfl (cls_ok ok hA hs ok' e hn c) (cls_ext ok hA hs ok' e hn c) (rd.mn (cls_mn ok' hn c))⟩
  · rw [shut_no c] at q
    exact q.elim
/-- a def within a def -/
theorem cloG_def {body : List Stmt} {m : SM} (hho : ∀ f cl c, Codes.ho i f cl c = NdefX.FnO f (nfOf name qual params scope cl c body)) (hq : Codes.qual i = qual) (S : NdefX.NScope N ps (Codes.fr i) scope)
    (hb : ∀ cl c doc pm ctv us, us.length = ps.length → bindArgs ((nfOf name qual params scope cl c body).fd doc pm ctv) ⟨us, []⟩ = pure (ps.zip us))
    (hbody : ∀ (cl : List (Str × Addr)) (c f : Addr) (A : Around) (outer : List Env) (s : Shared) (H : Hp), Bd (inCx P w K mg base N (nfOf name qual params scope cl c body) f A outer s H) (WxE noX) k →
      PassesOwn (model P w) (inCx P w K mg base N (nfOf name qual params scope cl c body) f A outer s H).A (inCx P w K mg base N (nfOf name qual params scope cl c body) f A outer s H).env (inCx P w K mg base N (nfOf name qual params scope cl c body) f A outer s H).xe →
      PDSs (inCx P w K mg base N (nfOf name qual params scope cl c body) f A outer s H) (WxE noX) body m) : CloG P w K mg base (k + 1) i ps (fnM N.length m) := by
  constructor
  · intro f cl c φ h e hφ
    rw [hho] at e
    unfold NdefX.FnO at e
    cases e
    obtain ⟨od, sl, doc, pm, ctv, z⟩ := hφ
    exact ⟨_, _, _, _, z⟩
  intro A outer s f us vs W n ws ds Q E hr e0 ok hA hs r hl rv q
  obtain ⟨c1, c2, c3, c4, c5⟩ := ok.at_ n f _ hA hs
  rw [hho] at c1
  rw [hq] at c2
  obtain ⟨od, sl, doc, pm, ctv, ho⟩ := NdefX.fnO_at e0.hok c1
  have nolim : s.heap.NoLimit := e0.mod.nolimit.keeps fun b o e => (e0.bs b o e).1
  refine codeAny_call_function hr.rm.depth ho rfl S.co S.gen rfl (NdefX.codeO_at e0.hok c2) ?_
  rw [hb _ _ doc pm ctv us (by rw [← rv.length, ← r.length]; exact hl)]
  refine wpAny_pure (wpAny_newFunctionEnv S.nocell (fun y hy => S.par y.1 (List.of_mem_zip hy).1) (fun h₁ hns hsb => ⟨nolim.fresh _ hsb, codeAny_func ?_⟩) S.kind)
  have kp : ∀ b o, s.heap.get? b = some o → h₁.get? b = some o := fun b o e => hsb.extBut b o (Nat.ne_of_lt (Heap.lt_size e)) (Heap.get?_push_of_some _ e)
  obtain ⟨σ, I, er⟩ := in_start (name := name) (qual := qual) (params := params) (body := body) (scope := scope) (tk := s.toks + (ps.zip us).length) S hr.rm.hd e0 ok hA hs r hl rv hns kp
  have B : Bd (inCx P w K mg base N (nfOf name qual params scope (W.pc n).1 (W.pc n).2 body) f A outer s (W.opn n i ws).H) (WxE noX) k := ⟨rfl, S.nd, takes_of rfl rfl rfl rfl, hr.deeper _⟩
  have T := (hbody (W.pc n).1 (W.pc n).2 f A outer s (W.opn n i ws).H B (passes_of rfl)).ps
  refine wpAny_mono (T.run [] _ σ _ { nx := fun _ H' => InPost K mg (W.opn n i ws) (fnM N.length m (ds ++ ws) (W.opn n i ws).st) V.non H', rt := InPost K mg (W.opn n i ws) (fnM N.length m (ds ++ ws) (W.opn n i ws).st) } I ⟨W.opn n i ws, _, rfl, opn_ok ok hA hs, er, ?_⟩) (fun fl s' hs' => ?_) (fun e s' hs' => noX_leave (R := fun e s'' => CR (L2.CX P w) outer P w W.H s Q E (.error e) s'') hs')
  · cases hm : m ((ds ++ ws).map some ++ List.replicate (N.length - (ds ++ ws).length) none) (W.opn n i ws).st with
    | nx en st' => exact fun W' σ' h1 h2 h3 _ => ⟨W', .non, rfl, h2, h3, .non, by unfold fnM; rw [hm, h1]⟩
    | rt d st' => exact fun W' v h1 h2 h3 h4 => ⟨W', d, rfl, h2, h3, h4, by unfold fnM; rw [hm, h1]⟩
    | _ =>
      have z : cloM (fnM N.length m) n i ws ds W.st = .bad := by
        show shut n i ws (fnM N.length m (ds ++ ws) (W.opn n i ws).st) = _
        unfold fnM
        rw [hm]
        rfl
      rw [z] at q
      exact q.elim
  · cases fl with
    | next =>
      obtain ⟨_, H', J, z⟩ := hs'
      exact in_end (G := fnM N.length m) (v := V.non) (u := Value.none) e0 ok hA hs q J rfl z
    | ret u =>
      obtain ⟨v, _, H', J, rv', z⟩ := hs'
      exact in_end (G := fnM N.length m) e0 ok hA hs q J rv' z
    | brk => obtain ⟨_, _, _, z⟩ := hs'; exact z.elim
    | cont => obtain ⟨_, _, _, z⟩ := hs'; exact z.elim
/-- the object of a lambda -/
def LamO (f : Addr) (qual : Str) (params : Arguments) (scope : Scope) (body : Expr) (cl : List (Str × Addr)) (c : Addr) : HO := .ext fun h => ∃ (od : Option Addr) (sl : Array (Option Value)) (pm ctv : Value), h.get? f = some (⟨.type "function", od, .func (PySem.W.kla_fn "<lambda>" qual params body scope cl pm (.ref c) ctv), sl⟩ : Obj)
theorem lamO_at {H : Hp} {h : Heap} {f c : Addr} {body : Expr} {cl : List (Str × Addr)} (hok : HOk P w H h) (e : H f = some (LamO f qual params scope body cl c)) : ∃ (od : Option Addr) (sl : Array (Option Value)) (pm ctv : Value), h.get? f = some (⟨.type "function", od, .func (PySem.W.kla_fn "<lambda>" qual params body scope cl pm (.ref c) ctv), sl⟩ : Obj) := (hok f _ e).1
theorem cloG_lam {body : Expr} {m : EM} (hho : ∀ f cl c, Codes.ho i f cl c = LamO f qual params scope body cl c) (hq : Codes.qual i = qual) (S : NdefX.NScope N ps (Codes.fr i) scope)
    (hb : ∀ cl c pm ctv us, us.length = ps.length → bindArgs (PySem.W.kla_fn "<lambda>" qual params body scope cl pm (.ref c) ctv) ⟨us, []⟩ = pure (ps.zip us))
    (hbody : ∀ (cl : List (Str × Addr)) (c f : Addr) (A : Around) (outer : List Env) (s : Shared) (H : Hp), Bd (inCx P w K mg base N (nfOf "<lambda>" qual params scope cl c []) f A outer s H) (WxE noX) k →
      PD (inCx P w K mg base N (nfOf "<lambda>" qual params scope cl c []) f A outer s H) (WxE noX) body m) : CloG P w K mg base (k + 1) i ps (fnM N.length (sRet m)) := by
  constructor
  · intro f cl c φ h e hφ
    rw [hho] at e
    unfold LamO at e
    cases e
    obtain ⟨od, sl, pm, ctv, z⟩ := hφ
    exact ⟨_, _, _, _, z⟩
  intro A outer s f us vs W n ws ds Q E hr e0 ok hA hs r hl rv q
  obtain ⟨c1, c2, c3, c4, c5⟩ := ok.at_ n f _ hA hs
  rw [hho] at c1
  rw [hq] at c2
  obtain ⟨od, sl, pm, ctv, ho⟩ := lamO_at e0.hok c1
  have nolim : s.heap.NoLimit := e0.mod.nolimit.keeps fun b o e => (e0.bs b o e).1
  refine PySem.W.kla_callFunE hr.rm.depth ho rfl S.co S.gen rfl (NdefX.codeO_at e0.hok c2) ?_
  rw [hb _ _ pm ctv us (by rw [← rv.length, ← r.length]; exact hl)]
  refine wpAny_pure (wpAny_newFunctionEnv S.nocell (fun y hy => S.par y.1 (List.of_mem_zip hy).1) (fun h₁ hns hsb => ⟨nolim.fresh _ hsb, PySem.W.kla_codeExpr ?_⟩) S.kind)
  have kp : ∀ b o, s.heap.get? b = some o → h₁.get? b = some o := fun b o e => hsb.extBut b o (Nat.ne_of_lt (Heap.lt_size e)) (Heap.get?_push_of_some _ e)
  obtain ⟨σ, I, er⟩ := in_start (name := "<lambda>") (qual := qual) (params := params) (body := []) (scope := scope) (tk := s.toks + (ps.zip us).length) S hr.rm.hd e0 ok hA hs r hl rv hns kp
  have B : Bd (inCx P w K mg base N (nfOf "<lambda>" qual params scope (W.pc n).1 (W.pc n).2 []) f A outer s (W.opn n i ws).H) (WxE noX) k := ⟨rfl, S.nd, takes_of rfl rfl rfl rfl, hr.deeper _⟩
  have T := (hbody (W.pc n).1 (W.pc n).2 f A outer s (W.opn n i ws).H B).pe
  refine wpAny_mono (T.run [] _ σ _ (InPost K mg (W.opn n i ws) (fnM N.length (sRet m) (ds ++ ws) (W.opn n i ws).st)) I ⟨W.opn n i ws, _, rfl, opn_ok ok hA hs, er, ?_⟩) (fun u s' hs' => ?_) (fun e s' hs' => noX_leave (R := fun e s'' => CR (L2.CX P w) outer P w W.H s Q E (.error e) s'') hs')
  · cases hm : m ((ds ++ ws).map some ++ List.replicate (N.length - (ds ++ ws).length) none) (W.opn n i ws).st with
    | ok d st' => exact fun W' v h1 h2 h3 h4 => ⟨W', d, rfl, h2, h3, h4, by unfold fnM sRet; rw [hm, h1]; rfl⟩
    | _ =>
      have z : cloM (fnM N.length (sRet m)) n i ws ds W.st = .bad := by
        show shut n i ws (fnM N.length (sRet m) (ds ++ ws) (W.opn n i ws).st) = _
        unfold fnM sRet
        rw [hm]
        rfl
      rw [z] at q
      exact q.elim
  · obtain ⟨v, H', J, rv', z⟩ := hs'
    exact in_end (G := fnM N.length (sRet m)) e0 ok hA hs q J rv' z
end
end Pd

namespace Pd
open PySem PySem.Spec L2
open PyProof.Rows hiding St
variable [Codes]
/-! ## functions within defs are made -/
/-- a new function is told of -/
def Wd.fun (W : Wd) (H1 : Hp) (f : Addr) (i : Nat) (cl : List (Str × Addr)) (c : Addr) : Wd :=
  { W with H := H1, A := W.A ++ [f], st := W.st ++ [.clo i [] true], pc := fun m => if m = W.A.length then (cl, c) else W.pc m }
section
variable {C : Cn} {W : Wd} {H1 : Hp} {f c : Addr} {i : Nat} {cl : List (Str × Addr)}
theorem fun_pc : (W.fun H1 f i cl c).pc W.A.length = (cl, c) := if_pos rfl
theorem fun_ext (ok : WOk C W) (eN : LamX.ExtN W.H H1) (tr : ∀ b, H1 b = none → W.H b = none) (hf : W.H f = none) : Ext W (W.fun H1 f i cl c) := by
  refine ⟨⟨[f], rfl⟩, rfl, fun a o h hT n => ⟨eN a o h (fun ps z => by subst z; cases hT), fun z => ?_⟩, fun a h => ?_, fun n hn => if_neg (Nat.ne_of_lt hn), tr⟩
  · rcases app_live (W1 := W.fun H1 f i cl c) ok rfl rfl z with z | z
    · exact n z
    · subst z; rw [hf] at h; cases h
  · rcases List.mem_append.mp (show a ∈ W.A ++ [f] from h) with h | h
    · exact .inl h
    · simp at h; subst h; exact .inr fun o e => by rw [hf] at e; cases e
theorem fun_ok (ok : WOk C W) (eN : LamX.ExtN W.H H1) (tr : ∀ b, H1 b = none → W.H b = none) (hf : W.H f = none) (tb : NdefX.TabsN Codes.tabs H1) (h1 : H1 f = some (Codes.ho i f cl c)) (h2 : H1 c = some (LamX.CodeO c (Codes.qual i)))
    (hn : cl.map (·.1) = Codes.fr i) (nd : (cl.map (·.2)).Nodup) : WOk C (W.fun H1 f i cl c) := by
  have e := fun_ext (i := i) (cl := cl) (c := c) ok eN tr hf
  have trk : ∀ a, Trk W.H a → Trk H1 a := fun a ⟨o, q, k⟩ => ⟨o, eN a o q (fun ps z => by subst z; cases k), k⟩
  refine ok.app' (W1 := W.fun H1 f i cl c) (c := .clo i [] true) rfl rfl (fun n hn => if_neg (Nat.ne_of_lt hn)) e.mn tb (fun b o h _ t => eN b o h (fun ps z => by subst z; cases t)) (fun n a d g1 g2 g3 => ?_) trk (fun a h => trk a (ok.hidT a h)) (fun a h => ⟨ok.hidA a h, fun z => (ok.hidT a h).ne (by rw [z]; exact hf)⟩) (ok.fresh hf) (.inl rfl) ?_
  · obtain ⟨o, q, k⟩ := (ok.at_ n a d g1 g2).boxO g3
    show H1 a = _
    rw [q]
    exact eN a o q (fun ps z => by subst z; cases k)
  · rw [fun_pc]
    exact ⟨h1, h2, hn, nd, nofun⟩
end
section
variable {X : Cx} {pins : List (Addr × Obj)} {σ : St} {H : Hp} {s : Shared}
/-- one code object more in a table -/
theorem tabs_more {T : List NdefX.NTab} {P c : Addr} {nm : Nat → Nat → Str} {ps : Array Value} {pos : Pos} {q : Str} (hT : NdefX.TabsN T H) (hP : H P = some (.tbl ps)) (ht : TriplesOk ps.toList) (hc : H c = none)
    (old : ∀ (p : Pos) (cv : Value), codeAmong p ps.toList = some cv → ∃ a, cv = .ref a ∧ H a = some (LamX.CodeO a (nm p.line p.col))) (one : ∀ p ∈ T, p.1 = P → p.2 = nm) (hq : nm pos.line pos.col = q) :
    NdefX.TabsN T (upd (upd H P (.tbl (ps ++ #[rawInt pos.line, rawInt pos.col, .ref c]))) c (LamX.CodeO c q)) := by
  have stay : ∀ {a : Addr} {r : Str}, H a = some (LamX.CodeO a r) → upd (upd H P (.tbl (ps ++ #[rawInt pos.line, rawInt pos.col, .ref c]))) c (LamX.CodeO c q) a = some (LamX.CodeO a r) := fun {a r} h => by
    rw [upd_ne (ne_of_none h hc), upd_ne]
    · exact h
    · intro z; subst z; rw [hP] at h; cases h
  intro p hp
  by_cases z : p.1 = P
  · rw [one p hp z, z]
    refine ⟨_, by rw [upd_ne (ne_of_none hP hc)]; exact upd_same, ?_, fun p' cv h => ?_⟩
    · rw [Array.toList_append]
      exact PySem.TriplesOk_snoc _ _ _ _ ht
    · rw [Array.toList_append] at h
      rcases NdefX.among_app2 _ ht h with y | ⟨y, y1, y2⟩
      · obtain ⟨a, e1, e2⟩ := old p' cv y
        exact ⟨a, e1, stay e2⟩
      · refine ⟨c, y, ?_⟩
        rw [← y1, ← y2, hq]; exact upd_same
  · obtain ⟨qs, e1, e2, e3⟩ := hT p hp
    refine ⟨qs, by rw [upd_ne (ne_of_none e1 hc), upd_ne z]; exact e1, e2, fun p' cv h => ?_⟩
    obtain ⟨a, e4, e5⟩ := e3 p' cv h
    exact ⟨a, e4, stay e5⟩
theorem inv_lam {qual : Str} {params : Arguments} {scope : Scope} {body : Expr} {cl : List (Str × Addr)} {c : Addr} {t' : Nat} {pm ctv : Value} (I : Inv X pins σ H s) :
    Inv X pins σ (upd H s.heap.objs.size (LamO s.heap.objs.size qual params scope body cl c)) { s with heap := s.heap.push { cls := .type "function", data := .func (PySem.W.kla_fn "<lambda>" qual params body scope cl pm (.ref c) ctv) }, toks := t' } := by
  refine I.laid (fun b u e => Heap.get?_push_of_some _ e) (Nat.le_refl _) ?_
  have e := Heap.get?_push_size s.heap (o := { cls := .type "function", data := .func (PySem.W.kla_fn "<lambda>" qual params body scope cl pm (.ref c) ctv) }) rfl
  exact ⟨⟨_, _, pm, ctv, e⟩, ⟨_, e⟩, fun h1 h2 ⟨od, sl, p, t, z⟩ st => ⟨od, sl, p, t, st _ z⟩⟩
/-- a lambda's object is made -/
theorem lam_made {T : List NdefX.NTab} {nm : Nat → Nat → Str} {c P : Addr} {params : Arguments} {body : Expr} {scope : Scope} {pos : Pos} {E : Value → Shared → Prop} {Q : Value → Shared → Prop} (I : Inv X pins σ H s) (TB : LamX.TabB X.base X.mg c P) (hcode : X.env.code = .ref c)
    (hm : (P, nm) ∈ T) (hn : nm pos.line pos.col = X.env.qual ++ "<lambda>") (hu : ∀ p ∈ T, p.1 = P → p.2 = nm) (hT : NdefX.TabsN T H) (hdef : defaultsOf params X.env = ([], [])) (hfree : ∀ y ∈ scope.names, y.2 = .free → ∃ c, X.env.cells.lookup y.1 = some c)
    (h : ∀ (f c' : Addr) (H1 : Hp) (s' : Shared), Inv X pins σ H1 s' → LamX.ExtN H H1 → (∀ b, H1 b = none → H b = none) → NdefX.TabsN T H1 → H f = none → H1 f = some (LamO f (X.env.qual ++ "<lambda>") params scope body (cloFrom X.env.cells scope.names []) c') → H1 c' = some (LamX.CodeO c' (X.env.qual ++ "<lambda>")) → Q (.ref f) s') :
    wpAny (model X.prog X.w) X.A (eval (.Lambda params body scope pos) X.env) Q E s := by
  obtain ⟨ps, e1, e2, e3⟩ := (show NdefX.TabN H P nm from hT (P, nm) hm)
  have hB : s.heap.BuiltinsAt X.mg P := TB.bm.keeps I.bk
  have hO : s.heap.get? P = some { cls := .none, data := .fields ps } := I.hok P _ e1
  have gone : ∀ {G : Hp} {a b : Addr} {o : HO}, upd G a o b = none → G b = none := fun z => upd_gone z
  refine PySem.W.kla_eval hdef ?_
  cases hc : codeAmong pos ps.toList with
  | some cv =>
    obtain ⟨c', rfl, hco⟩ := e3 pos cv hc
    rw [hn] at hco
    refine PySem.W.kla_makeFunctionHit (mg := X.mg) (closure_ok hfree) I.ok.glob (I.mod.glob.keeps I.bk) hcode (TB.code.keeps I.bk) hO e2 hc hB fun ctv h' tk hx _ => ?_
    have J : Inv X pins σ H { s with heap := h', toks := tk } := I.kept hx
    have fresh : H h'.objs.size = none := J.hok.fresh (Nat.le_refl _)
    refine h h'.objs.size c' _ _ (inv_lam (t' := tk) (pm := (X.mg "__name__").getD .none) (ctv := ctv) J) (fun b o e _ => ?_) (fun b z => gone z) (hT.ext fun b o e => ?_) fresh upd_same ?_
    · rw [upd_ne (ne_of_none e fresh)]; exact e
    · rw [upd_ne (ne_of_none e fresh)]; exact e
    · rw [upd_ne (ne_of_none hco fresh)]; exact hco
  | none =>
    refine PySem.W.kla_makeFunction (mg := X.mg) (closure_ok hfree) I.ok.glob (I.mod.glob.keeps I.bk) hcode (TB.code.keeps I.bk) hO e2 hc TB.gP hB fun c' ctv h' tk hx hge hlt hrec htb => ?_
    obtain ⟨c2, oc, vs, t, e4, hoc, hd, hv⟩ := hrec
    cases e4
    have nc : H c' = none := I.hok.fresh hge
    have J := LamX.inv_table (t' := tk) (more := #[rawInt pos.line, rawInt pos.col, .ref c']) (h' := h') I e1 (fun b o hb e => hx b o hb e) htb hge ⟨oc, vs, t, hoc, hd, hv⟩
    have T1 := tabs_more hT e1 e2 nc e3 hu hn
    have sm : LamX.ExtN H (upd (upd H P (.tbl (ps ++ #[rawInt pos.line, rawInt pos.col, .ref c']))) c' (LamX.CodeO c' (X.env.qual ++ "<lambda>"))) := fun b o e k => by
      rw [upd_ne (ne_of_none e nc), upd_ne]
      · exact e
      · intro z; subst z; rw [e1] at e; cases e; exact k ps rfl
    have fresh := J.hok.fresh (Nat.le_refl h'.objs.size)
    refine h h'.objs.size c' _ _ (inv_lam (t' := tk) (pm := (X.mg "__name__").getD .none) (ctv := ctv) J) (fun b o e k => ?_) (fun b z => gone (gone (gone z))) (T1.ext fun b o e => ?_) (I.hok.fresh (Nat.le_trans hge (Nat.le_of_lt hlt))) upd_same ?_
    · have y := sm b o e k
      rw [upd_ne (ne_of_none y fresh)]; exact y
    · rw [upd_ne (ne_of_none e fresh)]; exact e
    · rw [upd_ne (Nat.ne_of_lt hlt)]; exact upd_same
end
end Pd

namespace Pd
open PySem PySem.Spec L2
open PyProof.Rows hiding St
variable [Codes]
/-! ## a made function is handed in: its captured cells are told of as long as the call runs -/
def Wd.giv (W : Wd) (n i : Nat) (ws : List D) (G : Hp) : Wd := { W with H := addH (csOf W n) G W.H, st := W.st.set n (.clo i ws false) }
section
variable {C : Cn} {W W' : Wd} {n i : Nat} {ws : List D} {f : Addr} {G : Hp}
theorem giv_live (hs : W.st[n]? = some (.clo i [] true)) {a : Addr} (h : CLive (W.giv n i ws G) a) : CLive W a := by
  obtain ⟨m, c, h1, h2, h3⟩ := h
  have h2 : (W.st.set n (.clo i ws false))[m]? = some c := h2
  by_cases z : n = m
  · subst z; exact ⟨n, _, h1, hs, nofun⟩
  · rw [List.getElem?_set_ne z] at h2; exact ⟨m, c, h1, h2, h3⟩
theorem giv_old (hn : ∀ b ∈ csOf W n, W.H b = none) {a : Addr} {o : HO} (h : W.H a = some o) : (W.giv n i ws G).H a = some o := by
  show addH _ _ _ a = _
  rw [add_out fun m => by rw [hn a m] at h; cases h]; exact h
theorem giv_ext (hs : W.st[n]? = some (.clo i [] true)) (hn : ∀ b ∈ csOf W n, W.H b = none) : Ext W (W.giv n i ws G) :=
  ⟨List.prefix_refl _, rfl, fun a o h _ nl => ⟨giv_old hn h, fun z => nl (giv_live hs z)⟩, fun _ h => .inl h, fun _ _ => rfl, fun a h => by
    cases e : W.H a with
    | none => rfl
    | some o => rw [giv_old hn e] at h; cases h⟩
theorem giv_ok (ok : WOk C W) (hA : W.A[n]? = some f) (hs : W.st[n]? = some (.clo i [] true)) (hn : ∀ b ∈ csOf W n, W.H b = none) (hc : CapT C (W.giv n i ws G) (W.pc n).1 ws) : WOk C (W.giv n i ws G) := by
  have e := giv_ext (ws := ws) (G := G) hs hn
  have hl : n < W.st.length := (List.getElem?_eq_some_iff.mp hs).1
  have ht : ∀ a, Trk W.H a → Trk (W.giv n i ws G).H a := fun a ⟨o, q, k⟩ => ⟨o, giv_old hn q, k⟩
  have apart : ∀ (k : Nat) (c : Cel) (a : Addr), W.A[k]? = some a → W.st[k]? = some c → c.up = true → ∀ b ∈ csOf W k, b ∉ csOf W n := fun k c a h1 h2 u b hb m => by
    cases c with
    | clo j us up =>
      cases up with
      | false =>
        obtain ⟨o, z⟩ := ok.allP h1 h2 b hb
        rw [hn b m] at z; cases z
      | true => cases u
    | _ => cases u
  have at' : ∀ {k : Nat} {c : Cel}, W.st[k]? = some c → ∃ a, W.A[k]? = some a := fun {k c} h => by
    have : k < W.A.length := by rw [ok.len]; exact (List.getElem?_eq_some_iff.mp h).1
    exact ⟨_, List.getElem?_eq_getElem this⟩
  refine ⟨?_, ok.nd, fun k a c h1 h2 => ?_, fun a h => ht a (ok.hidT a h), tabs_mv ok.tabs (fun b o h _ _ => giv_old hn h), fun k j c d hk h1 h2 u1 u2 => ?_, ok.hidA⟩
  · show W.A.length = (W.st.set n _).length
    rw [List.length_set]; exact ok.len
  · have h1 : W.A[k]? = some a := h1
    have h2 : (W.st.set n (.clo i ws false))[k]? = some c := h2
    by_cases z : n = k
    · subst z
      rw [List.getElem?_set_self hl] at h2; cases h2
      have q := ok.at_ n a _ h1 hs
      exact ⟨giv_old hn q.1, giv_old hn q.2.1, q.2.2.1, q.2.2.2.1, fun _ => hc⟩
    · rw [List.getElem?_set_ne z] at h2
      exact (ok.at_ k a c h1 h2).mv e.mn (fun b o h _ _ _ => giv_old hn h) (fun u b hb o h _ => giv_old hn h) (fun hb => by
        obtain ⟨o, q, _⟩ := (ok.at_ k a c h1 h2).boxO hb
        rw [giv_old hn q, q]) (ht a)
  · have h1 : (W.st.set n (.clo i ws false))[k]? = some c := h1
    have h2 : (W.st.set n (.clo i ws false))[j]? = some d := h2
    by_cases y : n = k
    · subst y
      rw [List.getElem?_set_ne hk] at h2
      obtain ⟨a, ha⟩ := at' h2
      exact fun b hb hb2 => apart j d a ha h2 u2 b hb2 hb
    · rw [List.getElem?_set_ne y] at h1
      by_cases y2 : n = j
      · subst y2
        obtain ⟨a, ha⟩ := at' h1
        exact fun b hb hb2 => apart k c a ha h1 u1 b hb hb2
      · rw [List.getElem?_set_ne y2] at h2
        exact ok.pcd k j c d hk h1 h2 u1 u2
/-- .. and taken back -/
def Wd.bak (W W' : Wd) (n i : Nat) : Wd := { W' with H := cutH (csOf W n) W'.H, st := W'.st.set n (.clo i [] true) }
theorem bak_live (hs' : W'.st[n]? = some (.clo i ws false)) {a : Addr} (h : CLive (W.bak W' n i) a) : CLive W' a := by
  obtain ⟨m, c, h1, h2, h3⟩ := h
  have h2 : (W'.st.set n (.clo i [] true))[m]? = some c := h2
  by_cases z : n = m
  · subst z; exact ⟨n, _, h1, hs', nofun⟩
  · rw [List.getElem?_set_ne z] at h2; exact ⟨m, c, h1, h2, h3⟩
theorem bak_ext (hs : W.st[n]? = some (.clo i [] true)) (hn : ∀ b ∈ csOf W n, W.H b = none) (e : Ext (W.giv n i ws G) W') (hs' : W'.st[n]? = some (.clo i ws false)) : Ext W (W.bak W' n i) := by
  have e1 := (giv_ext (ws := ws) (G := G) hs hn).trans e
  refine ⟨e1.pre, e1.hid, fun a o h hT nl => ?_, e1.new, e1.pc, fun a h => ?_⟩
  · obtain ⟨q1, q2⟩ := e1.keep a o h hT nl
    exact ⟨by show cutH _ _ a = _; rw [cut_out fun m => by rw [hn a m] at h; cases h]; exact q1, fun z => q2 (bak_live hs' z)⟩
  · have h : cutH (csOf W n) W'.H a = none := h
    by_cases m : a ∈ csOf W n
    · exact hn a m
    · rw [cut_out m] at h; exact e1.tr a h
theorem bak_mn (p : AllP (csOf W n) W'.H) (hs' : W'.st[n]? = some (.clo i ws false)) : Mn W' (W.bak W' n i) :=
  ⟨List.prefix_refl _, fun a o h hn nl => ⟨by show cutH _ _ a = _; rw [cut_out (p.out h (isP_nX hn))]; exact h, fun z => by
    rcases z with z | z
    · exact nl (.inl (bak_live hs' z))
    · exact nl (.inr z)⟩⟩
theorem bak_ok (ok' : WOk C W') (hA : W.A[n]? = some f) (hs : W.st[n]? = some (.clo i [] true)) (hn : ∀ b ∈ csOf W n, W.H b = none) (e : Ext (W.giv n i ws G) W') (hs' : W'.st[n]? = some (.clo i ws false)) : WOk C (W.bak W' n i) := by
  have e1 := (giv_ext (ws := ws) (G := G) hs hn).trans e
  have hA' : W'.A[n]? = some f := pre_get e1.pre hA
  have hpc : W'.pc n = W.pc n := e1.pc n (List.getElem?_eq_some_iff.mp hA).1
  have ecs : csOf W' n = csOf W n := by unfold csOf; rw [hpc]
  have p' := ok'.allP hA' hs'
  have p : AllP (csOf W n) W'.H := by rw [← ecs]; exact p'
  have hl : n < W'.st.length := (List.getElem?_eq_some_iff.mp hs').1
  have hX : ∀ b o, W'.H b = some o → isP o = false → cutH (csOf W n) W'.H b = some o := fun b o h k => by rw [cut_out (p.out h k)]; exact h
  have ht : ∀ a, Trk W'.H a → Trk (cutH (csOf W n) W'.H) a := fun a ⟨o, q, k⟩ => ⟨o, hX a o q (plO_isP k), k⟩
  refine ⟨?_, ok'.nd, fun k a c h1 h2 => ?_, fun a h => ht a (ok'.hidT a h), tabs_mv ok'.tabs (fun b o h _ k => hX b o h k), fun k j c d hk h1 h2 u1 u2 => ?_, ok'.hidA⟩
  · show W'.A.length = (W'.st.set n _).length
    rw [List.length_set]; exact ok'.len
  · have h1 : W'.A[k]? = some a := h1
    have h2 : (W'.st.set n (.clo i [] true))[k]? = some c := h2
    by_cases z : n = k
    · subst z
      rw [List.getElem?_set_self hl] at h2; cases h2
      have q := ok'.at_ n a _ h1 hs'
      obtain ⟨φ, eφ⟩ := Codes.ext i a (W'.pc n).1 (W'.pc n).2
      refine ⟨?_, hX _ _ q.2.1 rfl, q.2.2.1, q.2.2.2.1, nofun⟩
      have e := q.1
      show _ = some (Codes.ho i a (W'.pc n).1 (W'.pc n).2)
      rw [eφ] at e ⊢
      exact hX _ _ e rfl
    · rw [List.getElem?_set_ne z] at h2
      refine (ok'.at_ k a c h1 h2).mv (bak_mn p hs') (fun b o h _ k _ => hX b o h k) (fun u b hb o h _ => ?_) (fun hb => ?_) (ht a)
      · show cutH _ _ b = _
        rw [cut_out (by rw [← ecs]; exact ok'.pcd k n c _ (Ne.symm z) h2 hs' u rfl b hb)]; exact h
      · obtain ⟨o, q, y⟩ := (ok'.at_ k a c h1 h2).boxO hb
        show cutH _ _ a = _
        rw [hX a o q (isP_nX y), q]
  · have h1 : (W'.st.set n (.clo i [] true))[k]? = some c := h1
    have h2 : (W'.st.set n (.clo i [] true))[j]? = some d := h2
    have nk : n ≠ k := fun z => by subst z; rw [List.getElem?_set_self hl] at h1; cases h1; cases u1
    have nj : n ≠ j := fun z => by subst z; rw [List.getElem?_set_self hl] at h2; cases h2; cases u2
    rw [List.getElem?_set_ne nk] at h1
    rw [List.getElem?_set_ne nj] at h2
    exact ok'.pcd k j c d hk h1 h2 u1 u2
end
/-! ## the frame that made the function knows its cells -/
structure Lnk (X : Cx) (scope : Scope) (W : Wd) (n : Nat) : Prop where
  pc : (W.pc n).1 = cloFrom X.env.cells scope.names []
  lt : n < W.A.length
theorem Lnk.ext {X : Cx} {scope : Scope} {W W' : Wd} {n : Nat} (h : Lnk X scope W n) (e : Ext W W') : Lnk X scope W' n :=
  ⟨by rw [e.pc n h.lt]; exact h.pc, Nat.lt_of_lt_of_le h.lt e.pre.length_le⟩
def caps : List Nat → En → Option (List D)
  | [], _ => some []
  | j :: r, en => match en[j]? with
    | some (some d) => (caps r en).map (d :: ·)
    | _ => none
/-- free names of the scope, as the cells come -/
def frOf (scope : Scope) : List Str := (cloFrom [] scope.names []).map (·.1)
theorem cloFrom_fst (cells cells' : List (Str × Addr)) : ∀ (names : List (Str × NameKind)) (acc acc' : List (Str × Addr)), acc.map (·.1) = acc'.map (·.1) → (cloFrom cells names acc).map (·.1) = (cloFrom cells' names acc').map (·.1)
  | [], _, _, h => h
  | (m, k) :: r, acc, acc', h => by
    unfold cloFrom
    by_cases c : (k == .free) = true
    · rw [if_pos c, if_pos c]
      exact cloFrom_fst cells cells' r _ _ (by rw [List.map_cons, List.map_cons, h])
    · rw [if_neg c, if_neg c]
      exact cloFrom_fst cells cells' r _ _ h
/-- what is asked of a made function's captured names, in the frame that makes it -/
structure Cap (X : Cx) (scope : Scope) (i : Nat) (js : List Nat) : Prop where
  fr : frOf scope = Codes.fr i
  nd : (Codes.fr i).Nodup
  free : ∀ y ∈ scope.names, y.2 = .free → X.env.scope.names.lookup y.1 = some .cell ∨ X.env.scope.names.lookup y.1 = some .free
  at_ : js.map (fun j => X.N[j]?) = (Codes.fr i).map some
  fn : ∀ x, X.fn x = true
section
variable {X : Cx} {scope : Scope} {i : Nat} {js : List Nat} {pins : List (Addr × Obj)} {σ : St} {s : Shared} {W : Wd} {en : En}
theorem Cap.has (c : Cap X scope i js) (ok : X.Ok) : ∀ y ∈ scope.names, y.2 = .free → ∃ a, X.env.cells.lookup y.1 = some a := fun y hy e => (c.free y hy e).elim (fun z => ok.has _ (.inl z)) fun z => ok.has _ (.inr z)
theorem Cap.cell (c : Cap X scope i js) (ok : X.Ok) {p : Str × Addr} (h : p ∈ cloFrom X.env.cells scope.names []) : X.env.cells.lookup p.1 = some p.2 ∧ (X.env.kindOf p.1 = some .cell ∨ X.env.kindOf p.1 = some .free) := by
  obtain ⟨x, a⟩ := p
  rcases cloFrom_mem h with z | ⟨z1, z2⟩
  · cases z
  · obtain ⟨a', e⟩ := c.has ok _ z1 rfl
    have e : X.env.cells.lookup x = some a' := e
    refine ⟨?_, c.free _ z1 rfl⟩
    show X.env.cells.lookup x = some a
    rw [z2, e]; rfl
theorem Cap.fst (c : Cap X scope i js) : (cloFrom X.env.cells scope.names []).map (·.1) = Codes.fr i := by
  rw [← c.fr]
  exact cloFrom_fst _ _ _ _ _ rfl
theorem Cap.snd (c : Cap X scope i js) (ok : X.Ok) : ((cloFrom X.env.cells scope.names []).map (·.2)).Nodup := by
  have h1 : ((cloFrom X.env.cells scope.names []).map (·.1)).Nodup := by rw [c.fst]; exact c.nd
  have h2 : ∀ p ∈ cloFrom X.env.cells scope.names [], X.env.cells.lookup p.1 = some p.2 := fun p hp => (c.cell ok hp).1
  revert h1 h2
  generalize cloFrom X.env.cells scope.names [] = l
  intro h1 h2
  induction l with
  | nil => exact List.nodup_nil
  | cons p l ih =>
    rw [List.map_cons, List.nodup_cons] at h1 ⊢
    refine ⟨fun z => ?_, ih h1.2 fun q hq => h2 q (List.mem_cons_of_mem _ hq)⟩
    obtain ⟨q, hq, e⟩ := List.mem_map.mp z
    have a1 := h2 p List.mem_cons_self
    have a2 := h2 q (List.mem_cons_of_mem _ hq)
    rw [e] at a2
    exact h1.1 (ok.inj _ _ _ a1 a2 ▸ List.mem_map_of_mem (f := (·.1)) hq)
/-- the cells' objects -/
def cellsG (h : Heap) : Hp := fun b => (h.get? b).map PyC
theorem caps_capT {C : Cn} {W2 : Wd} (I : Inv X pins σ W.H s) (er : EnvR C W σ en) (mn : Mn W W2) : ∀ {l : List (Str × Addr)} {js : List Nat} {ws : List D}, (∀ p ∈ l, X.env.cells.lookup p.1 = some p.2 ∧ (X.env.kindOf p.1 = some .cell ∨ X.env.kindOf p.1 = some .free)) →
    js.map (fun j => X.N[j]?) = l.map (fun p => some p.1) → caps js en = some ws → (∀ p ∈ l, W2.H p.2 = cellsG s.heap p.2) → CapT C W2 l ws
  | [], [], ws, _, _, h, _ => by cases h; unfold CapT; rfl
  | [], j :: js, _, _, h, _, _ => by cases h
  | p :: l, [], _, _, h, _, _ => by cases h
  | p :: l, j :: js, ws, hp, hj, hc, hg => by
    rw [List.map_cons, List.map_cons] at hj
    injection hj with hj1 hj2
    unfold caps at hc
    split at hc
    · rename_i d hd
      cases hr : caps js en with
      | none => rw [hr] at hc; cases hc
      | some r =>
        rw [hr] at hc
        cases hc
        obtain ⟨v, hv, rd⟩ := er.2 j d hd
        obtain ⟨m, _, hl⟩ := I.loc
        obtain ⟨h1, h2⟩ := hp p List.mem_cons_self
        obtain ⟨u, ru, lk⟩ := hl j p.1 v hj1 hv (by rcases h2 with z | z; exact .inr (.inl z); exact .inr (.inr z))
        rcases lk with ⟨z, _⟩ | ⟨_, c, z1, o, z2, z3⟩
        · rcases h2 with y | y <;> (rw [y] at z; cases z)
        · rw [h1] at z1
          cases z1
          unfold CapT
          refine ⟨d, r, o, u, v, rfl, ?_, z3, ru, rd.mn mn, caps_capT I er mn (fun q hq => hp q (List.mem_cons_of_mem _ hq)) hj2 hr fun q hq => hg q (List.mem_cons_of_mem _ hq)⟩
          rw [hg p List.mem_cons_self]
          unfold cellsG
          rw [z2]; rfl
    · cases hc
end
end Pd

namespace Pd
open PySem PySem.Spec L2
open PyProof.Rows hiding St
variable [Codes]
/-! ## expressions in a frame that knows a made function's cells -/
def PostQ (X : Cx) (Wx : WX) (scope : Scope) (p : Nat) (W : Wd) (σ : St) (Q : List V → Hp → Prop) : Out (List D) → Prop
  | .ok ds st' => ∀ W' vs, W'.st = st' → WOk (cn X) W' → Ext W W' → RepL (cn X) W' ds vs → (∀ n, ds[p]? = some (.cell n) → Lnk X scope W' n) → Q vs W'.H
  | .err e st' => ∀ W' cls dd, W'.st = st' → WOk (cn X) W' → Ext W W' → ExR (cn X) W' e cls dd → Wx cls dd σ W'.H
  | .bad => False
def PostN (X : Cx) (Wx : WX) (scope : Scope) (W : Wd) (σ : St) (Q : VK) : Out D → Prop
  | .ok d st' => ∀ W' v, W'.st = st' → WOk (cn X) W' → Ext W W' → Rep (cn X) W' d v → (∀ n, d = .cell n → Lnk X scope W' n) → Q v W'.H
  | .err e st' => ∀ W' cls dd, W'.st = st' → WOk (cn X) W' → Ext W W' → ExR (cn X) W' e cls dd → Wx cls dd σ W'.H
  | .bad => False
abbrev MK := En → Wd → Prop
structure PDk (X : Cx) (Wx : WX) (mk : MK) (e : Expr) (m : EM) : Prop where
  pe : PE X e (fun σ H Q => ∃ W en, W.H = H ∧ WOk (cn X) W ∧ EnvR (cn X) W σ en ∧ mk en W ∧ PostE (cn X) Wx W σ Q (m en W.st))
structure PDl (X : Cx) (Wx : WX) (mk : MK) (scope : Scope) (e : Expr) (m : EM) : Prop where
  pe : PE X e (fun σ H Q => ∃ W en, W.H = H ∧ WOk (cn X) W ∧ EnvR (cn X) W σ en ∧ mk en W ∧ PostN X Wx scope W σ Q (m en W.st))
structure PDq (X : Cx) (Wx : WX) (mk : MK) (scope : Scope) (p : Nat) (es : List Expr) (lm : LM) : Prop where
  pa : PA X es (fun σ H Q => ∃ W en, W.H = H ∧ WOk (cn X) W ∧ EnvR (cn X) W σ en ∧ mk en W ∧ PostQ X Wx scope p W σ Q (lm en W.st))
def Stab (mk : MK) : Prop := ∀ en W W', Ext W W' → mk en W → mk en W'
def mkT : MK := fun _ _ => True
def mkF (X : Cx) (scope : Scope) (j : Nat) : MK := fun en W => ∀ n, en[j]? = some (some (.cell n)) → Lnk X scope W n
theorem stab_T : Stab mkT := fun _ _ _ _ _ => trivial
theorem stab_F {X : Cx} {scope : Scope} {j : Nat} : Stab (mkF X scope j) := fun _ _ _ e h n q => (h n q).ext e
section
variable {X : Cx} {Wx : WX} {mk : MK} {scope : Scope} {p : Nat} {e a b c : Expr} {es : List Expr} {m ma mb' : EM} {tm : TM} {lm : LM} {pos : Pos}
theorem pdk_of (h : PD X Wx e m) : PDk X Wx mk e m := ⟨PE.weak h.pe fun σ H Q ⟨W, en, eH, ok, er, _, q⟩ => ⟨W, en, eH, ok, er, q⟩⟩
theorem pd_of_k (h : PDk X Wx mkT e m) : PD X Wx e m := ⟨PE.weak h.pe fun σ H Q ⟨W, en, eH, ok, er, q⟩ => ⟨W, en, eH, ok, er, trivial, q⟩⟩
theorem pdk_if (hm : Stab mk) (hc : PDT X Wx c tm) (ha : PDk X Wx mk a ma) (hb : PDk X Wx mk b mb') : PDk X Wx mk (.IfExp c a b pos) (mIf tm ma mb') := by
  refine ⟨PE.weak (pe_ifExp hc.pt ha.pe hb.pe) fun σ H Q ⟨W, en, eH, ok, er, hk, q⟩ => ?_⟩
  subst eH
  refine seqTE ok er q fun k W1 ok1 e1 er1 q1 => ?_
  cases k with
  | true => rw [if_pos rfl]; exact ⟨W1, en, rfl, ok1, er1, hm _ _ _ e1 hk, q1⟩
  | false => rw [if_neg Bool.false_ne_true]; exact ⟨W1, en, rfl, ok1, er1, hm _ _ _ e1 hk, q1⟩
theorem pdq_skip (hm : Stab mk) (h : PDq X Wx mk scope p es lm) (he : PD X Wx e m) (hs : starEach (e :: es) X.env = (false, eval e X.env) :: starEach es X.env := by rfl) : PDq X Wx mk scope (p + 1) (e :: es) (lCons m lm) :=
  ⟨PA.weak (pa_cons he.pe h.pa hs) fun σ H Q ⟨W, en, eH, ok, er, hk, q⟩ => by
    subst eH
    refine ⟨W, en, rfl, ok, er, ?_⟩
    unfold lCons at q
    cases h1 : m en W.st with
    | bad => rw [h1] at q; exact q.elim
    | err x st => rw [h1] at q; exact q
    | ok d st =>
      rw [h1] at q
      intro W1 v hst ok1 e1 r1
      subst hst
      refine ⟨W1, en, rfl, ok1, er.ext e1, hm _ _ _ e1 hk, ?_⟩
      have q : PostQ X Wx scope (p + 1) W σ Q (mb (lm en W1.st) fun ds st => .ok (d :: ds) st) := q
      cases h2 : lm en W1.st with
      | bad => rw [h2] at q; exact q.elim
      | err x st => rw [h2] at q; exact fun W2 cls dd z1 z2 z3 => q W2 cls dd z1 z2 (e1.trans z3)
      | ok ds st =>
        rw [h2] at q
        exact fun W2 vs z1 z2 z3 z4 z5 => q W2 (v :: vs) z1 z2 (e1.trans z3) (.cons (r1.ext z3) z4) z5⟩
theorem pdq_fn (h : PDA X Wx es lm) (he : PDl X Wx mk scope e m) (hs : starEach (e :: es) X.env = (false, eval e X.env) :: starEach es X.env := by rfl) : PDq X Wx mk scope 0 (e :: es) (lCons m lm) :=
  ⟨PA.weak (pa_cons he.pe h.pa hs) fun σ H Q ⟨W, en, eH, ok, er, hk, q⟩ => by
    subst eH
    refine ⟨W, en, rfl, ok, er, hk, ?_⟩
    unfold lCons at q
    cases h1 : m en W.st with
    | bad => rw [h1] at q; exact q.elim
    | err x st => rw [h1] at q; exact q
    | ok d st =>
      rw [h1] at q
      intro W1 v hst ok1 e1 r1 lk
      subst hst
      refine ⟨W1, en, rfl, ok1, er.ext e1, ?_⟩
      have q : PostQ X Wx scope 0 W σ Q (mb (lm en W1.st) fun ds st => .ok (d :: ds) st) := q
      cases h2 : lm en W1.st with
      | bad => rw [h2] at q; exact q.elim
      | err x st => rw [h2] at q; exact fun W2 cls dd z1 z2 z3 => q W2 cls dd z1 z2 (e1.trans z3)
      | ok ds st =>
        rw [h2] at q
        exact fun W2 vs z1 z2 z3 z4 => q W2 (v :: vs) z1 z2 (e1.trans z3) (.cons (r1.ext z3) z4) fun n hn => (lk n (by simpa using hn)).ext z3⟩
theorem pdl_name {j : Nat} {x : Str} (hN : X.N[j]? = some x) (hv : Vis X.env.scope x) (hd : (x == ("__debug__" : Str)) = false := by decide) (hcd : (x == ("__classdict__" : Str)) = false := by decide) : PDl X Wx (mkF X scope j) scope (.Name x pos) (mVar j) :=
  ⟨PE.weak (pe_var hN hv hd hcd) fun σ H Q ⟨W, en, eH, ok, er, hk, q⟩ => by
    subst eH
    unfold mVar at q
    cases h1 : en[j]? with
    | none => rw [h1] at q; exact q.elim
    | some o =>
      cases o with
      | none => rw [h1] at q; exact q.elim
      | some d =>
        rw [h1] at q
        obtain ⟨v, hv, r⟩ := er.2 j d h1
        exact ⟨v, hv, q W v rfl ok (Ext.refl W) r fun n hn => hk n (by rw [h1, hn])⟩⟩
/-- a function's code by its number -/
def mFn (i : Nat) : EM := fun _ st => .ok (.cell st.length) (st ++ [.clo i [] true])
theorem fun_rep {C : Cn} {W : Wd} {H1 : Hp} {f : Addr} {i : Nat} {cl : List (Str × Addr)} {c : Addr} (ok : WOk C W) : Rep C (W.fun H1 f i cl c) (.cell W.st.length) (.ref f) := by
  unfold Rep
  refine ⟨f, rfl, ?_⟩
  show (W.A ++ [f])[W.st.length]? = some f
  rw [← ok.len]; simp
theorem fun_lnk {W : Wd} {H1 : Hp} {f : Addr} {i : Nat} {c : Addr} (ok : WOk (cn X) W) : Lnk X scope (W.fun H1 f i (cloFrom X.env.cells scope.names []) c) W.st.length := by
  refine ⟨?_, ?_⟩
  · rw [← ok.len]; show (if W.A.length = W.A.length then _ else _ : List (Str × Addr) × Addr).1 = _; rw [if_pos rfl]
  · show _ < (W.A ++ [f]).length
    rw [List.length_append, ← ok.len]; exact Nat.lt_succ_self _
/-- what a def that makes functions knows of its own code object -/
structure Mkr (X : Cx) (nm : Nat → Nat → Str) : Prop where
  ex : ∃ c P, LamX.TabB X.base X.mg c P ∧ X.env.code = .ref c ∧ (P, nm) ∈ Codes.tabs ∧ ∀ p ∈ Codes.tabs, p.1 = P → p.2 = nm
theorem pdl_lam {i : Nat} {js : List Nat} {params : Arguments} {body : Expr} {nm : Nat → Nat → Str} (M : Mkr X nm) (c : Cap X scope i js) (hn : nm pos.line pos.col = X.env.qual ++ "<lambda>") (hq : Codes.qual i = X.env.qual ++ "<lambda>")
    (hho : ∀ f cl c, Codes.ho i f cl c = LamO f (X.env.qual ++ "<lambda>") params scope body cl c) (hdef : defaultsOf params X.env = ([], []) := by rfl) : PDl X Wx mk scope (.Lambda params body scope pos) (mFn i) :=
  ⟨⟨fun pins s σ H Q I ⟨W, en, eH, ok, er, hk, q⟩ => by
    subst eH
    obtain ⟨ca, P, TB, hcode, hm, hu⟩ := M.ex
    refine lam_made I TB hcode hm hn hu ok.tabs hdef (c.has I.ok) fun f c' H1 s' I1 eN tr tb hf h1 h2 => ?_
    have h1 : H1 f = some (Codes.ho i f (cloFrom X.env.cells scope.names []) c') := by rw [hho]; exact h1
    have h2 : H1 c' = some (LamX.CodeO c' (Codes.qual i)) := by rw [hq]; exact h2
    have okF := fun_ok ok eN tr hf tb h1 h2 c.fst (c.snd I.ok)
    exact ⟨.ref f, H1, I1, rfl, q (W.fun H1 f i _ c') (.ref f) rfl okF (fun_ext ok eN tr hf) (fun_rep ok) fun n hn => by cases hn; exact fun_lnk ok⟩⟩⟩
/-- def leaf(..): .. / return e -/
def sDef (i j : Nat) : SM := fun en st => .nx (en.set j (some (.cell st.length))) (st ++ [.clo i [] true])
theorem pds_ndef_ret {st : Stmt} {i j : Nat} {js : List Nat} {name : Str} {npos rpos : Pos} {nm : Nat → Nat → Str} (h : PDk X Wx (mkF X (C8.fnScope st) j) e m) (M : Mkr X nm) (c : Cap X (C8.fnScope st) i js)
    (hst : st = .FunctionDef name (C8.fnArgs st) (C8.fnBody st) [] none [] (C8.fnScope st) none name npos) (hn : nm npos.line npos.col = X.env.qual ++ name) (hq : Codes.qual i = X.env.qual ++ name)
    (hho : ∀ f cl c, Codes.ho i f cl c = NdefX.FnO f (nfOf name (X.env.qual ++ name) (C8.fnArgs st) (C8.fnScope st) cl c (C8.fnBody st)))
    (hd0 : (C8.fnArgs st).defaults = []) (hk0 : (C8.fnArgs st).kw_defaults = []) (ha : annTrees (C8.fnArgs st) none X.env = []) (hN : X.N.Nodup) (hj : X.N[j]? = some name) (hx : Loc X.env.scope name) :
    PDSs X Wx [st, .Return (some e) rpos] (sSeq (sDef i j) (sRet m)) := by
  refine ⟨⟨fun pins s σ H D I h0 => ?_⟩⟩
  obtain ⟨ca, P, TB, hcode, hm, hu⟩ := M.ex
  obtain ⟨W, en, eH, ok, er, q⟩ := h0
  subst eH
  refine (pss_cons (NdefX.ps_ndefMS hst TB hcode hm hn hu c.free hd0 hk0 ha hN hj hx (.inl (c.fn _))) (pss_one (ps_ret h.pe))).run pins s σ W.H D I ⟨ok.tabs, fun f c' H1 eN tr tb hf h1 h2 => ?_⟩
  have h1 : H1 f = some (Codes.ho i f (cloFrom X.env.cells (C8.fnScope st).names []) c') := by rw [hho]; exact h1
  have h2 : H1 c' = some (LamX.CodeO c' (Codes.qual i)) := by rw [hq]; exact h2
  have okF := fun_ok ok eN tr hf tb h1 h2 c.fst (c.snd I.ok)
  have eF := fun_ext (i := i) (cl := cloFrom X.env.cells (C8.fnScope st).names []) (c := c') ok eN tr hf
  refine ⟨W.fun H1 f i _ c', en.set j (some (.cell W.st.length)), rfl, okF, (er.ext eF).set j (fun_rep ok), fun n hn => ?_, ?_⟩
  · by_cases hl : j < en.length
    · rw [List.getElem?_set_self hl] at hn
      cases hn
      exact fun_lnk ok
    · rw [List.getElem?_eq_none (by rw [List.length_set]; omega)] at hn; cases hn
  · have q : PostS (cn X) Wx W D (smb (m (en.set j (some (.cell W.st.length))) (W.st ++ [.clo i [] true])) (en.set j (some (.cell W.st.length))) fun d st => .rt d st) := q
    show PostE (cn X) Wx _ _ _ (m _ (W.st ++ [.clo i [] true]))
    cases hm : m (en.set j (some (.cell W.st.length))) (W.st ++ [.clo i [] true]) with
    | bad => rw [hm] at q; exact q.elim
    | err x st => rw [hm] at q; exact fun W' cls dd z1 z2 z3 z4 => q W' _ cls dd z1 z2 (eF.trans z3) (((er.ext eF).set j (fun_rep ok)).ext z3) z4
    | ok d st => rw [hm] at q; exact fun W' v z1 z2 z3 z4 => q W' v z1 z2 (eF.trans z3) z4
end
end Pd

namespace Pd
open PySem PySem.Spec L2
open PyProof.Rows hiding St
variable [Codes]
open Classical in
noncomputable def shutG (n i : Nat) (ws : List D) (o : Out D) : Out D := match o with
  | .ok d st' => if st'[n]? = some (.clo i ws false) then .ok d (st'.set n (.clo i [] true)) else .bad
  | _ => .bad
theorem shutG_ok {n i : Nat} {ws : List D} {d : D} {st : Sto} (c : st[n]? = some (.clo i ws false)) : shutG n i ws (.ok d st) = .ok d (st.set n (.clo i [] true)) := if_pos c
theorem shutG_no {n i : Nat} {ws : List D} {d : D} {st : Sto} (c : ¬ st[n]? = some (.clo i ws false)) : shutG n i ws (.ok d st) = .bad := if_neg c
open Classical in
/-- f(.., g, ..), g a function that this frame made -/
noncomputable def giveM (G : FM) (nargs n i : Nat) (ws ds : List D) (st : Sto) : Out D :=
  if st[n]? = some (.clo i [] true) ∧ ds.length = nargs then shutG n i ws (G ds (st.set n (.clo i ws false))) else .bad
noncomputable def mGive (G : FM) (nargs p i : Nat) (js : List Nat) (lm : LM) : EM := fun en st => mb (lm en st) fun ds st => match ds[p]?, caps js en with
  | some (.cell n), some ws => giveM G nargs n i ws ds st
  | _, _ => .bad
section
variable {X : Cx} {Wx : WX} {mk : MK} {scope : Scope} {p i : Nat} {js : List Nat} {e : Expr} {es : List Expr} {lm : LM} {pos : Pos} {k : Nat} {f : Addr} {fd : FuncData} {ps : List Str} {x : Str} {pf : Pos} {G : FM} {nargs : Nat}
/-- the captured cells stand in the heap, untracked, and are no frames -/
theorem Cap.apart {pins : List (Addr × Obj)} {σ : St} {s : Shared} {W : Wd} (c : Cap X scope i js) (I : Inv X pins σ W.H s) {n : Nat} (l : Lnk X scope W n) : ∀ b ∈ csOf W n, W.H b = none ∧ (∃ o, s.heap.get? b = some o) ∧ X.base.get? b = none ∧ b ∉ frs X.stack := fun b hb => by
  unfold csOf at hb
  rw [l.pc] at hb
  obtain ⟨q, hq, rfl⟩ := List.mem_map.mp hb
  obtain ⟨h1, _⟩ := c.cell I.ok hq
  obtain ⟨v, o, ho, _⟩ := I.cell _ _ h1
  have new := I.ok.cab _ _ (c.fn q.1) h1
  refine ⟨I.freeC _ _ h1, ⟨o, ho⟩, ?_, fun z => ?_⟩
  · cases e : X.base.get? q.2 with
    | none => rfl
    | some u => exact absurd (Nat.lt_of_lt_of_le (Heap.lt_size e) (Nat.le_trans I.ok.bsz new)) (Nat.lt_irrefl _)
  · rcases List.mem_cons.mp (I.stkSub _ z) with y | y
    · exact I.cne _ _ h1 y
    · obtain ⟨_, u, hu, _⟩ := I.ok.funs.mem y
      exact absurd (Nat.lt_of_lt_of_le (Heap.lt_size hu) new) (Nat.lt_irrefl _)
theorem give_run {pins : List (Addr × Obj)} {σ : St} {s : Shared} {W : Wd} {en : En} {n : Nat} {ws ds : List D} {vs : List V} {us : List Value} {Q : VK} (F : FnG X.prog X.w X.K X.mg X.base k f fd ps (spD (cn X) nargs G)) (hb : Binds X.K fd ps []) (b : Bd X Wx k) (c : Cap X scope i js)
    (I : Inv X pins σ W.H s) (ok : WOk (cn X) W) (er : EnvR (cn X) W σ en) (l : Lnk X scope W n) (r : RepL (cn X) W ds vs) (rv : Vals vs us) (hc : caps js en = some ws) (hs : W.st[n]? = some (.clo i [] true)) (hl : ds.length = nargs)
    (q : PostE (cn X) Wx W σ Q (shutG n i ws (G ds (W.st.set n (.clo i ws false))))) : wpAny (model X.prog X.w) X.A (call (.ref f) us) (EP X pins σ Q) X.xe s := by
  have ap := c.apart I l
  have hn : ∀ b ∈ csOf W n, W.H b = none := fun b hb => (ap b hb).1
  obtain ⟨f0, hA⟩ : ∃ a, W.A[n]? = some a := ⟨_, List.getElem?_eq_getElem l.lt⟩
  have eG := giv_ext (ws := ws) (G := cellsG s.heap) hs hn
  have hcap : CapT (cn X) (W.giv n i ws (cellsG s.heap)) (W.pc n).1 ws := by
    refine caps_capT I er eG.mn (js := js) (fun q hq => ?_) ?_ hc (fun q hq => ?_)
    · rw [l.pc] at hq; exact c.cell I.ok hq
    · rw [l.pc, c.at_, ← c.fst, List.map_map]; rfl
    · show addH (csOf W n) _ _ _ = _
      rw [add_in (List.mem_map_of_mem (f := (·.2)) hq)]
  have okG := giv_ok ok hA hs hn hcap
  have g1 : ∀ b ∈ csOf W n, ∃ o, cellsG s.heap b = some (PyC o) ∧ s.heap.get? b = some o := fun b hb => by
    obtain ⟨_, ⟨o, ho⟩, _⟩ := ap b hb
    exact ⟨o, by unfold cellsG; rw [ho]; rfl, ho⟩
  have E0 := I.env0
  have E1 : Env0 X.prog X.w X.K X.mg X.base X.A X.stack s (W.giv n i ws (cellsG s.heap)).H := by
    refine ⟨E0.frames, E0.mod, fun b o hb => ⟨(E0.bs b o hb).1, ?_⟩, E0.bsz, E0.funs, fun b hb => ?_, hok_add I.hok hn g1, E0.bare⟩
    · show addH _ _ _ b = none
      rw [add_out fun m => by rw [(ap b m).2.2.1] at hb; cases hb]; exact (E0.bs b o hb).2
    · show addH _ _ _ b = none
      rw [add_out fun m => (ap b m).2.2.2 hb]; exact E0.frf b hb
  have hlen : us.length = ps.length := rv.length.symm.trans (F.len vs (W.giv n i ws (cellsG s.heap)).H (fun _ _ => True) noX ⟨W.giv n i ws (cellsG s.heap), ds, rfl, okG, r.ext eG, hl, by
    cases hG : G ds (W.giv n i ws (cellsG s.heap)).st with
    | ok d st => exact fun _ _ _ _ _ _ => trivial
    | err x st =>
      have hG : G ds (W.st.set n (.clo i ws false)) = .err x st := hG
      rw [hG] at q; exact q.elim
    | bad =>
      have hG : G ds (W.st.set n (.clo i ws false)) = .bad := hG
      rw [hG] at q; exact q.elim⟩)
  have bt := hb s us I.kIn (by simpa using hlen)
  rw [List.append_nil] at bt
  refine wpAny_call (codeAny_mono (F.run X.A X.stack s (W.giv n i ws (cellsG s.heap)).H ⟨us, []⟩ us vs (InPost X.K X.mg (W.giv n i ws (cellsG s.heap)) (G ds (W.giv n i ws (cellsG s.heap)).st)) noX b.rg E1 bt rv ⟨W.giv n i ws (cellsG s.heap), ds, rfl, okG, r.ext eG, hl, ?_⟩) ?_)
  · cases hG : G ds (W.giv n i ws (cellsG s.heap)).st with
    | ok d st => exact fun W' v h1 h2 h3 h4 => ⟨W', d, rfl, h2, h3, h4, by rw [h1]⟩
    | err x st =>
      have hG : G ds (W.st.set n (.clo i ws false)) = .err x st := hG
      rw [hG] at q; exact q.elim
    | bad =>
      have hG : G ds (W.st.set n (.clo i ws false)) = .bad := hG
      rw [hG] at q; exact q.elim
  · rintro (e | fl) s' h
    · obtain ⟨_, _, _, _, _, _, _, _, _, _, _, _, z⟩ := h
      exact z.elim
    · cases fl with
      | next => exact h.elim
      | brk => exact h.elim
      | cont => exact h.elim
      | ret u =>
        obtain ⟨v, H', os, bare, un, hok', ru, W', d, rfl, ok', eW, rd, hG⟩ := h
        have hG : G ds (W.st.set n (.clo i ws false)) = .ok d W'.st := hG
        rw [hG] at q
        by_cases cc : W'.st[n]? = some (.clo i ws false)
        · rw [shutG_ok cc] at q
          have p' : ∀ b ∈ csOf W n, ∃ o, W'.H b = some (PyC o) ∧ s.heap.get? b = some o := fun b hb => by
            obtain ⟨o, z1, z2⟩ := g1 b hb
            refine ⟨o, (eW.keep b (PyC o) (by show addH _ _ _ b = _; rw [add_in hb]; exact z1) rfl fun z => ?_).1, z2⟩
            have y := (ok.trk (giv_live hs z).mem).ne
            exact y (hn b hb)
          have pA : AllP (csOf W n) W'.H := fun b hb => let ⟨o, z, _⟩ := p' b hb; ⟨o, z⟩
          exact I.after ⟨v, cutH (csOf W n) W'.H, os, bare, un_cut un hn (fun b hb o ho => by
            obtain ⟨o', z1, z2⟩ := p' b hb
            rw [z2] at ho; cases ho
            exact (hok' b _ z1).1), hok_cut hok' pA, ru, q (W.bak W' n i) v rfl (bak_ok ok' hA hs hn eW cc) (bak_ext hs hn eW cc) (rd.mn (bak_mn pA cc))⟩
        · rw [shutG_no cc] at q
          exact q.elim
theorem pdk_give (F : FnG X.prog X.w X.K X.mg X.base k f fd ps (spD (cn X) nargs G)) (hm : X.mg x = some (.ref f)) (hk : PySem.W.keepIn X.K (.ref f) = true) (hb : Binds X.K fd ps []) (b : Bd X Wx k) (c : Cap X scope i js) (ha : PDq X Wx mk scope p (e :: es) lm)
    (hg : Gl X x := by rfl) (hdb : (x == ("__debug__" : Str)) = false := by decide) (he : starEach (e :: es) X.env = (false, eval e X.env) :: starEach es X.env := by rfl) (hpl : (backTo pos (starEach es X.env)).any (·.1) = false := by rfl) :
    PDk X Wx mk (.Call (.Name x pf) (e :: es) [] pos) (mGive G nargs p i js lm) := by
  refine ⟨⟨fun pins s σ H Q I h => ?_⟩⟩
  refine wpAny_Call_Name_kw (ld_glob I hg hm (PySem.W.callWith_K (h₀ := X.base) I.ok.mod.kin hk ?_ he hpl) hdb)
  obtain ⟨W, en, eH, ok, er, hmk, q⟩ := h
  subst eH
  let R : List V → Hp → Prop := fun vs H1 => ∃ W1 n ws ds, W1.H = H1 ∧ WOk (cn X) W1 ∧ EnvR (cn X) W1 σ en ∧ RepL (cn X) W1 ds vs ∧ Lnk X scope W1 n ∧ caps js en = some ws ∧ W1.st[n]? = some (.clo i [] true) ∧ ds.length = nargs ∧ PostE (cn X) Wx W1 σ Q (shutG n i ws (G ds (W1.st.set n (.clo i ws false))))
  have rd : ∃ W' en', W'.H = W.H ∧ WOk (cn X) W' ∧ EnvR (cn X) W' σ en' ∧ mk en' W' ∧ PostQ X Wx scope p W' σ R (lm en' W'.st) := by
    refine ⟨W, en, rfl, ok, er, hmk, ?_⟩
    unfold mGive at q
    cases hl : lm en W.st with
    | bad => rw [hl] at q; exact q.elim
    | err y st => rw [hl] at q; exact q
    | ok ds st =>
      rw [hl] at q
      intro W1 vs h1 ok1 e1 r1 lk
      subst h1
      have q : PostE (cn X) Wx W σ Q (match ds[p]?, caps js en with | some (.cell n), some ws => giveM G nargs n i ws ds W1.st | _, _ => .bad) := q
      cases hp : ds[p]? with
      | none => rw [hp] at q; exact q.elim
      | some d =>
        rw [hp] at q
        cases hc : caps js en with
        | none => rw [hc] at q; cases d <;> exact q.elim
        | some ws =>
          rw [hc] at q
          cases d with
          | cell n =>
            have q : PostE (cn X) Wx W σ Q (giveM G nargs n i ws ds W1.st) := q
            by_cases cc : W1.st[n]? = some (.clo i [] true) ∧ ds.length = nargs
            · unfold giveM at q
              rw [if_pos cc] at q
              exact ⟨W1, n, ws, ds, rfl, ok1, er.ext e1, r1, lk n hp, hc, cc.1, cc.2, q.ext e1⟩
            · unfold giveM at q
              rw [if_neg cc] at q
              exact q.elim
          | _ => exact q.elim
  exact thn (ha.pa.run pos pins s σ W.H R I rd) fun us s1 ⟨vs, H1, I1, r, W1, n, ws, ds, eH, ok1, er1, r1, l1, hc, hs, hl, q1⟩ => ⟨I1.kIn, by
    subst eH
    exact give_run F hb b c I1 ok1 er1 l1 r1 r hc hs hl q1⟩
end
/-! ## a call of a name that holds a function -/
noncomputable def mCallV (Rc : Nat → FM) (ar : Nat → Nat) (Rg : Str → Option (Nat × FM)) (j : Nat) (lm : LM) : EM := fun en st => match en[j]? with
  | some (some (.cell n)) => (match st[n]? with
    | some (.clo _ _ _) => mb (lm en st) fun ds st => (match st[n]? with
      | some (.clo i ws false) => if ds.length = ar i then cloM (Rc i) n i ws ds st else .bad
      | _ => .bad)
    | _ => .bad)
  | some (some (.glob x)) => (match Rg x with
    | some (k, G) => mb (lm en st) fun ds st => if ds.length = k then G ds st else .bad
    | none => .bad)
  | _ => .bad
section
variable {X : Cx} {Wx : WX} {e : Expr} {es : List Expr} {lm : LM} {pos : Pos} {k j : Nat} {x : Str} {pf : Pos} {Rc : Nat → FM} {psC : Nat → List Str} {Rg : Str → Option (Nat × FM)}
theorem pd_callV (hC : ∀ i, CloG X.prog X.w X.K X.mg X.base k i (psC i) (Rc i)) (hG : ∀ y n G, Rg y = some (n, G) → ∃ f fd ps, X.mg y = some (.ref f) ∧ PySem.W.keepIn X.K (.ref f) = true ∧ Binds X.K fd ps [] ∧ FnG X.prog X.w X.K X.mg X.base k f fd ps (spD (cn X) n G))
    (b : Bd X Wx k) (ha : PDA X Wx (e :: es) lm) (hN : X.N[j]? = some x) (hv : Vis X.env.scope x) (hd : (x == ("__debug__" : Str)) = false := by decide) (hcd : (x == ("__classdict__" : Str)) = false := by decide)
    (he : starEach (e :: es) X.env = (false, eval e X.env) :: starEach es X.env := by rfl) (hpl : (backTo pos (starEach es X.env)).any (·.1) = false := by rfl) :
    PD X Wx (.Call (.Name x pf) (e :: es) [] pos) (mCallV Rc (fun i => (psC i).length) Rg j lm) := by
  refine ⟨⟨fun pins s σ H Q I ⟨W, en, eH, ok, er, q⟩ => ?_⟩⟩
  subst eH
  unfold mCallV at q
  cases hj : en[j]? with
  | none => rw [hj] at q; exact q.elim
  | some o =>
    cases o with
    | none => rw [hj] at q; exact q.elim
    | some d =>
      rw [hj] at q
      obtain ⟨v, hσ, rv⟩ := er.2 j d hj
      refine wpAny_Call_Name_kw (thn ((pe_var (pos := pf) hN hv hd hcd).run pins s σ W.H (fun v' H1 => v' = v ∧ H1 = W.H) I ⟨v, hσ, rfl, rfl⟩) fun u s1 ⟨v', H1, I1, ru, q1⟩ => ?_)
      obtain ⟨rfl, rfl⟩ := q1
      cases d with
      | cell n =>
        obtain ⟨a, rfl, hA⟩ := rv.cell_inv
        cases ru
        simp only at q
        cases hs : W.st[n]? with
        | none => rw [hs] at q; exact q.elim
        | some c0 =>
          rw [hs] at q
          cases c0 with
          | clo i0 w0 u0 =>
            simp only at q
            have fat : ∀ {W' : Wd} {s' : Shared} {i : Nat} {ws : List D} {up : Bool}, WOk (cn X) W' → Inv X pins σ W'.H s' → W'.A[n]? = some a → W'.st[n]? = some (.clo i ws up) → PySem.W.FnAt a s'.heap := fun {W' s' i ws up} ok' I' hA' hs' => by
              have q := (ok'.at_ n a _ hA' hs').1
              obtain ⟨φ, eφ⟩ := Codes.ext i a (W'.pc n).1 (W'.pc n).2
              have z := I'.hok a _ q
              rw [eφ] at z
              exact (hC i).fat a _ _ φ _ eφ z.1
            let R : List V → Hp → Prop := fun vs H1 => ∃ W1 i ws ds, W1.H = H1 ∧ WOk (cn X) W1 ∧ RepL (cn X) W1 ds vs ∧ W1.A[n]? = some a ∧ W1.st[n]? = some (.clo i ws false) ∧ ds.length = (psC i).length ∧ PostE (cn X) Wx W1 σ Q (cloM (Rc i) n i ws ds W1.st)
            have rd : tDL (cn X) Wx lm σ W.H R := by
              refine ⟨W, en, rfl, ok, er, ?_⟩
              cases hl : lm en W.st with
              | bad => rw [hl] at q; exact q.elim
              | err y st => rw [hl] at q; exact q
              | ok ds st =>
                rw [hl] at q
                intro W1 vs h1 ok1 e1 r1
                subst h1
                have q : PostE (cn X) Wx W σ Q (match W1.st[n]? with | some (.clo i ws false) => if ds.length = (psC i).length then cloM (Rc i) n i ws ds W1.st else .bad | _ => .bad) := q
                cases hs1 : W1.st[n]? with
                | none => rw [hs1] at q; exact q.elim
                | some c1 =>
                  rw [hs1] at q
                  cases c1 with
                  | clo i ws up =>
                    cases up with
                    | true => exact q.elim
                    | false =>
                      have q : PostE (cn X) Wx W σ Q (if ds.length = (psC i).length then cloM (Rc i) n i ws ds W1.st else .bad) := q
                      by_cases cc : ds.length = (psC i).length
                      · rw [if_pos cc] at q
                        exact ⟨W1, i, ws, ds, rfl, ok1, r1, pre_get e1.pre hA, hs1, cc, q.ext e1⟩
                      · rw [if_neg cc] at q; exact q.elim
                  | _ => exact q.elim
            refine PySem.W.callWith_F (fat ok I1 hA hs) (thn (ha.pa.run pos pins s1 σ _ R I1 rd) fun us s2 ⟨vs, H2, I2, r2, W1, i, ws, ds, eH, ok1, r1, hA1, hs1, hl, q1⟩ => ?_) he hpl
            subst eH
            refine ⟨fat ok1 I2 hA1 hs1, wpAny_call (codeAny_mono ((hC i).run X.A X.stack s2 a us vs W1 n ws ds Q (WE Wx σ) b.rg I2.env0 ok1 hA1 hs1 r1 hl r2 ?_) ?_)⟩
            · cases hG : cloM (Rc i) n i ws ds W1.st with
              | ok d st => rw [hG] at q1; exact q1
              | err x st => rw [hG] at q1; exact q1
              | bad => rw [hG] at q1; exact q1.elim
            · rintro (x' | fl) s' hq
              · exact passAt b.tk σ pins _ s2 x' s' I2 hq
              · cases fl with
                | ret u => exact I2.after hq
                | next => exact hq.elim
                | brk => exact hq.elim
                | cont => exact hq.elim
          | _ => exact q.elim
      | glob y =>
        obtain ⟨a, rfl, hy⟩ := (by unfold Rep at rv; exact rv : ∃ a, _ = V.ref a ∧ X.mg y = some (.ref a))
        cases ru
        simp only at q
        cases hr : Rg y with
        | none =>
          rw [hr] at q; exact q.elim
        | some nG =>
          obtain ⟨n, G⟩ := nG
          rw [hr] at q
          obtain ⟨f, fd, ps, hm, hk, hb, F⟩ := hG y n G hr
          rw [hy] at hm
          cases hm
          have rd : tDL (cn X) Wx lm σ W.H fun vs H1 => spD (cn X) n G vs H1 Q (WE Wx σ) := by
            refine ⟨W, en, rfl, ok, er, ?_⟩
            cases hl : lm en W.st with
            | bad => rw [hl] at q; exact q.elim
            | err z st => rw [hl] at q; exact q
            | ok ds st =>
              rw [hl] at q
              intro W1 vs h1 ok1 e1 r1
              subst h1
              have q : PostE (cn X) Wx W σ Q (if ds.length = n then G ds W1.st else .bad) := q
              by_cases cc : ds.length = n
              · rw [if_pos cc] at q
                refine ⟨W1, ds, rfl, ok1, r1, cc, ?_⟩
                have q := q.ext e1
                cases hG1 : G ds W1.st with
                | ok d st => rw [hG1] at q; exact q
                | err x st => rw [hG1] at q; exact q
                | bad => rw [hG1] at q; exact q.elim
              · rw [if_neg cc] at q; exact q.elim
          exact PySem.W.callWith_K (h₀ := X.base) I1.ok.mod.kin hk (thn (ha.pa.run pos pins s1 σ _ _ I1 rd) fun us s2 ⟨vs, H2, I2, r2, q2⟩ => ⟨I2.kIn, run_fnG F b.rg hb (passAt b.tk σ) I2 r2 q2⟩) he hpl
      | _ => exact q.elim
end
end Pd

namespace Pd
open PySem PySem.Spec L2
open PyProof.Rows hiding St
variable [Codes]
/-! ## the law's end, with tables of code objects -/
def topH (T : List Addr) (a : Addr) (o : Obj) (ns : List Int) (own : Bool) : Hp := fun b => if b ∈ T then some (.tbl #[]) else if b = a ∧ own = true then some (.frz o (.lst (ns.map V.int))) else none
section
variable {T : List Addr} {a b : Addr} {o : Obj} {ns : List Int} {own : Bool}
theorem top_t (h : b ∈ T) : topH T a o ns own b = some (.tbl #[]) := if_pos h
theorem top_a (h : a ∉ T) : topH T a o ns true a = some (.frz o (.lst (ns.map V.int))) := (if_neg h).trans (if_pos ⟨rfl, rfl⟩)
theorem top_some {u : HO} (h : topH T a o ns own b = some u) : (b ∈ T ∧ u = .tbl #[]) ∨ (b ∉ T ∧ b = a ∧ own = true ∧ u = .frz o (.lst (ns.map V.int))) := by
  unfold topH at h
  split at h
  · rename_i m; cases h; exact .inl ⟨m, rfl⟩
  · rename_i m
    split at h
    · rename_i z; cases h; exact .inr ⟨m, z.1, z.2, rfl⟩
    · cases h
end
theorem lawT {P : Program} {w : World} {K : PySem.W.Frag} {mg mb : Str → Option Value} {k : Nat} {fa a : Addr} {fd : FuncData} {x : Str} {G : FM} {s₁ : Shared} {vs : List Value} {ns : List Int} {cs : List (Addr × Addr)}
    (KX : K.In s₁.heap) (hns : s₁.heap.Ns mainGlobals mg) (hb : s₁.heap.Ns builtinsNs mb) (hbb : ∀ x : Str, x ≠ "__name__" → mb x = bootBuiltins x) (hlim : s₁.heap.NoLimit) (hg : s₁.gens = #[])
    (hbm : ∃ (bm : Addr) (ob : Obj), mg "__builtins__" = some (.ref bm) ∧ bm ≠ builtinsNs ∧ s₁.heap.get? bm = some ob ∧ ob.cls = .type "module" ∧ ob.dict = some builtinsNs ∧ ob.data = .plain)
    (hT : ∀ p ∈ cs, s₁.heap.get? p.2 = some { cls := .none, data := .fields #[] }) (nT : ∀ p ∈ cs, K.lookup p.2 = none) (hC : ∀ p ∈ cs, PySem.W.CodeHd s₁.heap p.1 p.2)
    (ha : s₁.heap.get? a = some { cls := .type "list", data := .seq vs.toArray }) (hi : IntsAre vs ns) (hl : ns.length ≤ sizeLine) (hr : RG k callerA)
    (hcov : ∀ q ∈ Codes.tabs, ∃ p ∈ cs, p.2 = q.1)
    (F : ∀ base : Heap, K.In base → base.Ns mainGlobals mg → (∀ p ∈ cs, LamX.TabB base mg p.1 p.2) → FnG P w K mg base k fa fd [x] (spD ⟨K, mg⟩ 1 G)) (hbind : ∀ (s : Shared) (u : Value), BindsTo s fd ⟨[u], []⟩ [(x, u)])
    (hG : ∃ st, G [.scr ns] [] = .ok (.bl true) st) :
    codeAny (model P w) callerA (.call (.ref fa) ⟨[.ref a], []⟩) (fun r s' => r = .ok (.ret (.bool true)) ∧ OldK s₁.heap s'.heap ∧ s'.os = s₁.os ∧ AllBare s'.gens) s₁ := by
  have lv : vs.length = ns.length := hi.length
  have vv : Vals (ns.map V.int) vs := vals_ints hi
  let T : List Addr := cs.map (·.2)
  have tab : ∀ b ∈ T, s₁.heap.get? b = some { cls := .none, data := .fields #[] } ∧ K.lookup b = none := fun b hb => by
    obtain ⟨p, hp, rfl⟩ := List.mem_map.mp hb
    exact ⟨hT p hp, nT p hp⟩
  have na : a ∉ T := fun z => by
    have q := (tab a z).1
    rw [ha] at q
    have q : Data.seq vs.toArray _ = Data.fields #[] := congrArg Obj.data (Option.some.inj q)
    cases q
  have main : ∀ own : Bool, (own = true → K.lookup a = none) → (own = false → SqL K (topH T a { cls := .type "list", data := .seq vs.toArray } ns own) a (ns.map V.int)) →
      codeAny (model P w) callerA (.call (.ref fa) ⟨[.ref a], []⟩) (fun r s' => r = .ok (.ret (.bool true)) ∧ OldK s₁.heap s'.heap ∧ s'.os = s₁.os ∧ AllBare s'.gens) s₁ := fun own hK hS => by
    generalize hH : topH T a { cls := .type "list", data := .seq vs.toArray } ns own = H at hS
    have some' : ∀ {b u}, H b = some u → (b ∈ T ∧ u = .tbl #[]) ∨ (b ∉ T ∧ b = a ∧ own = true ∧ u = .frz { cls := .type "list", data := .seq vs.toArray } (.lst (ns.map V.int))) := fun h => top_some (by rw [hH]; exact h)
    have hok : HOk P w H s₁.heap := fun b u q => by
      rcases some' q with ⟨m, rfl⟩ | ⟨_, rfl, _, rfl⟩
      · exact (tab b m).1
      · exact ⟨ha, by rw [List.length_map]; exact hl, vs, _, vv, ha⟩
    have KH : ∀ {b o}, K.lookup b = some o → H b = none := fun {b o} e => by
      cases q : H b with
      | none => rfl
      | some u =>
        rcases some' q with ⟨m, _⟩ | ⟨_, rfl, z, _⟩
        · rw [(tab b m).2] at e; cases e
        · rw [hK z] at e; cases e
    have untr : ∀ {b : Addr} {o : Obj}, s₁.heap.get? b = some o → (∀ its n, o.data ≠ .seq its n) → o.data ≠ .fields #[] → H b = none := fun {b o} e d d2 => by
      cases q : H b with
      | none => rfl
      | some u =>
        rcases some' q with ⟨m, _⟩ | ⟨_, rfl, _, _⟩
        · rw [(tab b m).1] at e; cases e; exact absurd rfl d2
        · rw [ha] at e; cases e; exact absurd rfl (d _ _)
    have names : ∀ {b : Addr} {m : Str → Option Value}, s₁.heap.Ns b m → (hidT s₁.heap H).Ns b m := by
      rintro b m ⟨o, es, ep, e, d, r⟩
      exact ⟨o, es, ep, hidT_get e (untr e (fun its n z => by rw [d] at z; cases z) fun z => by rw [d] at z; cases z), d, r⟩
    have frag : K.In (hidT s₁.heap H) := fun b o e => hidT_get (KX b o e) (KH e)
    obtain ⟨mc, hc1, hc2⟩ := hlim
    have TB : ∀ p ∈ cs, LamX.TabB (hidT s₁.heap H) mg p.1 p.2 := fun p hp => by
      have tp := hT p hp
      refine ⟨?_, ?_, fun z => ?_⟩
      · obtain ⟨o, us, file, tf, flags, tg, inF, text, tt, e1, q1, q2, q3, q4⟩ := hC p hp
        exact ⟨o, us, file, tf, flags, tg, inF, text, tt, hidT_get e1 (untr e1 (fun its n z => by rw [q2] at z; cases z) fun z => by rw [q2] at z; cases z; simp at q3), q1, q2, q3, q4⟩
      · obtain ⟨bm, ob, b1, b2, b3, b4, b5, b6⟩ := hbm
        refine ⟨bm, ob, b1, b2, fun q => ?_, fun q => ?_, hidT_get b3 (untr b3 (fun its n z => by rw [b6] at z; cases z) fun z => by rw [b6] at z; cases z), b4, b5, b6⟩
        · obtain ⟨o, es, ep, e, hd, _⟩ := hns
          subst q
          rw [e] at b3; cases b3; rw [hd] at b6; cases b6
        · subst q
          rw [tp] at b3; cases b3; cases b6
      · obtain ⟨o, es, ep, e, hd, _⟩ := hns
        rw [z, tp] at e; cases e; cases hd
    have e0 : Env0 P w K mg (hidT s₁.heap H) callerA [] s₁ H := {
      frames := rfl
      mod := ⟨frag, names hns, ⟨mb, names hb, hbb⟩, ⟨mc, names hc1, hc2⟩⟩
      bs := fun b o e => of_hidT e
      bsz := Nat.le_of_eq (hidT_size _ _)
      funs := trivial
      frf := fun b z => by cases z
      hok := hok
      bare := .of_eq hg }
    have SL : SqL K H a (ns.map V.int) := by
      cases own with
      | false => exact hS rfl
      | true => exact .inl (.inr ⟨_, by rw [← hH]; exact top_a na⟩)
    have tabs : NdefX.TabsN Codes.tabs H := fun q hq => by
      obtain ⟨p, hp, e⟩ := hcov q hq
      refine NdefX.TabN.nil ?_
      rw [← e, ← hH]
      exact top_t (List.mem_map_of_mem (f := (·.2)) hp)
    have spec : spD ⟨K, mg⟩ 1 G [.ref a] H (fun v _ => v = .bl true) fun _ _ _ => False := by
      obtain ⟨st, hG⟩ := hG
      refine ⟨⟨H, [], [], [], fun _ => ([], 0)⟩, [.scr ns], rfl, ⟨rfl, List.nodup_nil, (fun n b c z => by simp at z), (fun b z => by simp at z), tabs, (fun n m c d _ z => by simp at z), fun b z => by simp at z⟩, .cons ?_ .nil, rfl, ?_⟩
      · unfold Rep
        refine ⟨a, rfl, ?_⟩
        rcases SL with h | h
        · refine .inl ⟨h, fun z => ?_⟩
          rcases z with ⟨n, c, z, _⟩ | z
          · cases z
          · cases z
        · exact .inr h
      · rw [hG]
        exact fun W' v _ _ _ r => r.bl_inv
    refine codeAny_mono ((F _ frag (names hns) TB).run callerA [] s₁ H ⟨[.ref a], []⟩ [.ref a] [.ref a] _ _ hr e0 (hbind s₁ (.ref a)) (.cons rfl .nil) spec) ?_
    rintro (e | fl) s' h
    · obtain ⟨_, _, _, _, _, _, _, _, _, _, _, _, z⟩ := h
      exact z.elim
    · cases fl with
      | next => exact h.elim
      | brk => exact h.elim
      | cont => exact h.elim
      | ret u =>
        obtain ⟨v, H', os, bare, un, hok', ru, rfl⟩ := h
        obtain rfl : u = Value.bool true := ru
        have more : ∀ b ∈ T, ∃ m : Array Value, s'.heap.get? b = some { cls := .none, data := .fields m } := fun b hb => by
          obtain ⟨m, z⟩ := un.tbls b #[] (by rw [← hH]; exact top_t hb)
          exact ⟨_, hok' b _ z⟩
        have same : ∀ b o, b ∉ T → s₁.heap.get? b = some o → s'.heap.get? b = some o := fun b o m e => by
          cases q : H b with
          | none => exact un.keep b o e q (by intro z; cases z) (by intro z; cases z)
          | some u =>
            rcases some' q with ⟨z, _⟩ | ⟨_, rfl, _, rfl⟩
            · exact absurd z m
            · have a1 := (hok b _ q).1
              have a2 := (hok' b _ (un.frzs b _ _ q)).1
              rw [e] at a1; cases a1
              exact a2
        refine ⟨rfl, ⟨fun b o e => ?_, fun b o e => ?_⟩, os, bare⟩
        · by_cases m : b ∈ T
          · obtain ⟨p, hp, rfl⟩ := List.mem_map.mp m
            obtain ⟨mo, hm⟩ := more p.2 m
            have tp := hT p hp
            rw [tp] at e; cases e
            exact .inr (.inl ⟨((hC p hp).tab tp).isCodeTable, rfl, #[], mo, rfl, by rw [hm, Array.empty_append]⟩)
          · exact .inl (same b o m e)
        · by_cases m : b ∈ T
          · obtain ⟨mo, hm⟩ := more b m; exact ⟨_, hm⟩
          · exact ⟨o, same b o m e⟩
  cases hk : K.lookup a with
  | none => exact main true (fun _ => hk) nofun
  | some o =>
    have e := KX a o hk
    rw [ha] at e
    cases e
    exact main false nofun fun _ => .inr ⟨_, vs.toArray, _, hk, rfl, rfl, rfl, by rw [List.size_toArray, lv]; exact hl, by simpa using vv⟩
end Pd
namespace Pd
open PySem PySem.Spec L2
open PyProof.Rows hiding St
/-- the law's end: law(script) is True at every script; the tables cs are told by their code objects -/
theorem walkT {l : PySem.W.OpenLaw} {k : Nat} {q : Program} {loose : List Str} {XP : (Str → Option Value) → Heap → Prop} {YP : World → Heap → Prop} {d : DefRec} {K : Params → PySem.W.Frag}
    (hn : l.most = some 63) (hdf : d.params.defaults = []) (hr : RG k callerA) (cs : List (Addr × Addr))
    (hY : ∀ (w : World) (h : Heap), YP w h → (K w.params).In h ∧ (∀ p ∈ cs, h.get? p.2 = some { cls := .none, data := .fields #[] }))
    (hN : ∀ w : World, ∀ p ∈ cs, (K w.params).lookup p.2 = none) (hC : ∀ w : World, ∀ p ∈ cs, PySem.W.codeHdIn (K w.params) p.1 p.2 = true)
    (F : ∀ (w : World) (mg : Str → Option Value) (fa : Addr) (h : Heap), (K w.params).In h → h.Ns mainGlobals mg → mg d.name = some (.ref fa) →
      ∃ (C : Codes) (G : FM) (fd : FuncData), (∀ ns : List Int, ns.length ≤ 63 → ∃ st, G [.scr ns] [] = .ok (.bl true) st) ∧ (∀ q ∈ C.tabs, ∃ p ∈ cs, p.2 = q.1) ∧ (∀ (s : Shared) (u : Value), BindsTo s fd ⟨[u], []⟩ [("script", u)]) ∧
        ∀ base : Heap, (K w.params).In base → base.Ns mainGlobals mg → (∀ p ∈ cs, LamX.TabB base mg p.1 p.2) → FnG l.prog w (K w.params) mg base k fa fd ["script"] (@spD C ⟨K w.params, mg⟩ 1 G)) :
    PySem.W.WalkO q loose XP YP l.row.toRowW d [] (fun f vs => PySem.call f vs) := by
  refine Att.attach_call hn hdf ?_
  intro w s₀ s₁ mg mb fa o pm cd doc a vs ns G Y ho hd hcd hmg hobj hints hlen hg
  obtain ⟨hK, hT⟩ := hY w _ Y
  obtain ⟨C, GM, fd, hG, hcov, hb, hF⟩ := F w mg fa _ hK G.T.g hmg
  exact @lawT C _ _ _ _ _ _ _ _ _ _ GM _ _ _ cs hK G.T.g G.T.b G.T.builtins G.T.nolimit hg G.T.bmain hT (hN w) (fun p hp => PySem.W.codeHd_of_K hK (hC w p hp)) hobj hints (Nat.le_trans hlen (by decide)) hr hcov hF hb (hG ns hlen)
end Pd

/-! ## enumerate(tuple) -/
namespace PySem
open AutoSeq1 (wpAny_loadPart')
set_option maxHeartbeats 1000000 in
theorem meets_enum1 {v : Value} {ob : Obj} {P : Heap → Prop} (B : Begins v ob P) :
    Meets (Builtin.«enumerate.__new__» ⟨[.type "enumerate", v], []⟩) (fun _ R s => P s.heap ∧
      R (.ok (.ret (.ref (s.heap.push ob).objs.size))) { s with heap := (s.heap.push ob).push { cls := .type "enumerate", data := .fields #[.none, .bool false, .ref s.heap.objs.size, rawInt 0, .none, .none] } }) :=
  .of_wp fun pr wd Ar R st hh => by
    obtain ⟨h0, gs, dr, tt, osx⟩ := st
    obtain ⟨hp0, hh⟩ := hh
    have hsub := sub_enumerate
    have it : ∀ {A' : Around} {E Q : Value → Shared → Prop}, Q (.ref h0.objs.size) ⟨h0.push ob, gs, dr, tt, osx⟩ → wpAny (model pr wd) A' (pyIter v) Q E ⟨h0, gs, dr, tt, osx⟩ :=
      fun q => B.iter pr wd _ _ ⟨h0, gs, dr, tt, osx⟩ _ hp0 q
    wp_walk using it
    refine wpAny_stack_any fun _ => wpAny_pure ?_
    split
    · rename_i c _ _ _ _ _
      cases (c == Value.type "enumerate") <;> (wp_walk using it; exact ⟨_, rfl, hh⟩)
    · wp_walk using it
      exact ⟨_, rfl, hh⟩
theorem enum1 {prog : Program} {w : World} {A : Around} {E : Value → Shared → Prop} {s : Shared} {v : Value} {ob : Obj} {P : Heap → Prop} {Q : Value → Shared → Prop} (B : Begins v ob P) (hp : P s.heap)
    (h : ∀ h', IsEnum h' (s.heap.objs.size + 1) s.heap.objs.size 0 .none → h'.get? s.heap.objs.size = some ob → (∀ b o, s.heap.get? b = some o → h'.get? b = some o) → Q (.ref (s.heap.objs.size + 1)) { s with heap := h' }) :
    wpAny (model prog w) A (call (.type "enumerate") [v]) Q E s := by
  have sz : (s.heap.push ob).objs.size = s.heap.objs.size + 1 := Heap.size_push ..
  have en : IsEnum ((s.heap.push ob).push { cls := .type "enumerate", data := .fields #[.none, .bool false, .ref s.heap.objs.size, rawInt 0, .none, .none] }) (s.heap.objs.size + 1) s.heap.objs.size 0 .none := by
    have q := Heap.get?_push_size (s.heap.push ob) (o := { cls := .type "enumerate", data := .fields #[.none, .bool false, .ref s.heap.objs.size, rawInt 0, .none, .none] }) rfl
    rw [sz] at q
    exact q
  refine callType_new F.called_enumerate (by decide) (F.typeCall_enumerate_1 _) (F.newCall_enumerate_1 _) (fun x => F.args_object_init_2 x _) F.entry_enumerate_new (meets_enum1 B) ⟨hp, ?_⟩
  show _ ∧ _
  rw [sz]
  exact ⟨⟨_, en, rfl⟩, h _ en (Heap.get?_push_of_some _ (Heap.get?_push_size _ B.free)) fun b o x => Heap.get?_push_of_some _ (Heap.get?_push_of_some _ x)⟩
end PySem
namespace Pd
open PySem PySem.Spec L2
open PyProof.Rows hiding St
variable [Codes]
/-- the tuple's items, each in a new pair with its number -/
def IteT (K : PySem.W.Frag) (a : Addr) (xs : List V) : It :=
  ⟨fun i H => SqT K H a xs ∧ i < xs.length, fun i H v H' => ∃ T x, v = .ref T ∧ H T = none ∧ H' = upd H T (.tup [.int (i : Nat), x]) ∧ xs[i]? = some x, fun i H => SqT K H a xs ∧ i = xs.length⟩
theorem turn_enumT {P : Program} {w : World} {K : PySem.W.Frag} {elts : List Expr} {kk : Nat} {tpos : Pos} {a e it : Addr} {xs : List V} {its : List Value} (rv : Vals xs its) (ha : a ≠ it) (he : a ≠ e) :
    Turn P w K (.Tuple elts kk tpos) (IteT K a xs) [e, it] e (fun i h => (∃ old, IsEnum h e it ((i : Nat) : Int) old) ∧ h.IsTupleIter it a i ∧ e ≠ it) where
  mem := by simp
  obj := fun i h st b hb => by
    obtain ⟨⟨old, z⟩, ⟨o, ho, hc, hd⟩, _⟩ := st
    rcases (by simpa using hb : b = e ∨ b = it) with y | y
    · subst y; exact ⟨_, z, fun v q => nomatch q⟩
    · subst y; exact ⟨o, ho, fun v q => by rw [hd] at q; cases q⟩
  keep := fun i h h' st k => ⟨let ⟨old, z⟩ := st.1; ⟨old, k e (by simp) _ z⟩, st.2.1.at fun o q => k it (by simp) o q, st.2.2⟩
  item := by
    intro X hP hw hK hc i pins s σ H E I hf st hg
    subst hP hw hK
    obtain ⟨⟨old, ee⟩, hit, hne⟩ := st
    obtain ⟨hq, hlt⟩ := hg
    obtain ⟨its', rv', tp, hz⟩ := I.tuple hq
    have hel : e < s.heap.objs.size := Heap.lt_size ee
    have hil : it < s.heap.objs.size := by obtain ⟨_, q, _⟩ := hit; exact Heap.lt_size q
    have D := Draws.tuple (prog := X.prog) (w := X.w) (A := X.A.in1) (I.ok.hd hc) it a ha its'.toArray
    have hsz : its'.toArray.size = xs.length := by rw [List.size_toArray, rv'.length]
    refine wpAny_pyNext_enum_itemC D ee ⟨hit, tp⟩ (by rw [hsz]; exact hlt) hne (by simp only [List.mem_cons, List.not_mem_nil, or_false, not_or]; exact ⟨hne, Ne.symm he⟩) fun u h' tk hu ho hst hT hsz' hk => ?_
    have hu : its'[i]? = some u := by simpa using hu
    obtain ⟨x, hx, ru⟩ : ∃ x, xs[i]? = some x ∧ RelV x u := by
      have hx := List.getElem?_eq_getElem hlt
      obtain ⟨u', h1, h2⟩ := rv'.get hx
      rw [hu] at h1; cases h1
      exact ⟨_, hx, h2⟩
    refine ⟨_, rfl, wpAny_letOwnedTupleGo_enum (s := { s with heap := h', toks := tk + 1 }) ho fun h'' he' sb => ?_⟩
    have hT2 : h''.get? s.heap.objs.size = some { cls := .type "tuple", data := .seq #[.int i tk, u] } := (sb.2 _ (Nat.ne_of_gt hel)).trans hT
    have new : ObjOk X.prog X.w (upd H s.heap.objs.size (.tup [.int (i : Nat), x])) h'' s.heap.objs.size (.tup [.int (i : Nat), x]) :=
      ⟨by show 2 ≤ sizeLine; decide, [.int i tk, u], .cons ⟨_, rfl⟩ (.cons ru .nil), ⟨_, hT2, rfl, _, rfl⟩⟩
    have I1 : Inv X pins σ (upd H s.heap.objs.size (.tup [.int (i : Nat), x])) { s with heap := h'', toks := tk + 1 } :=
      I.turnedNew (ch := [e, it]) (fun b ob hb q => (sb.2 b (fun z => hb (by simp [z]))).trans (hk b ob (fun z => hb (by simp [z])) (fun z => hb (by simp [z])) q)) hf (Nat.le_refl _) new
    refine ⟨.ref s.heap.objs.size, _, I1, rfl, ⟨_, x, rfl, I.hok.fresh (Nat.le_refl _), rfl, hx⟩, ⟨⟨u, ?_⟩, hst.1.at fun o q => (sb.2 it (Ne.symm hne)).trans q, hne⟩, fun b hb => ?_⟩
    · rw [Int.natCast_succ]; exact he'
    · have : b < s.heap.objs.size := by
        rcases (by simpa using hb : b = e ∨ b = it) with z | z
        · rw [z]; exact hel
        · rw [z]; exact hil
      rw [upd_ne (Nat.ne_of_lt this)]
      exact (hf b hb).1
  done := by
    intro X hP hw hK hc i pins s σ H E I hf st hg
    subst hP hw hK
    obtain ⟨⟨old, ee⟩, hit, hne⟩ := st
    obtain ⟨hq, hle⟩ := hg
    obtain ⟨its', rv', tp, hz⟩ := I.tuple hq
    obtain ⟨f0, f1, f2, f3, f4, f5⟩ := hf it (by simp)
    have D := Draws.tuple (prog := X.prog) (w := X.w) (A := X.A.in1) (I.ok.hd hc) it a ha its'.toArray
    have hsz : its'.toArray.size = i := by rw [List.size_toArray, ← rv'.length, hle]
    refine wpAny_pyNext_enum_endD D ee (by rw [hsz]; exact ⟨hit, tp⟩) fun h' eb => ⟨rfl, I.turned (t' := s.toks) (fun b o hb q => eb b o hb q) f0 f1 f3 f4 f5⟩
  self := fun A i s Q E st h => by
    obtain ⟨⟨_, z⟩, _⟩ := st
    exact wpAny_pyIter_enum z h
theorem walk_enumT {K : PySem.W.Frag} {a : Addr} {xs : List V} : Walk (IteT K a xs) xs.length (fun H => SqT K H a xs) (YPair (fun i => some (.int (i : Nat))) (fun i => xs[i]?)) :=
  ⟨fun _ _ hi q => ⟨q, hi⟩, fun _ q => ⟨q, rfl⟩, fun i H v H' _ _ ⟨T, x, h1, h2, h3, h4⟩ => ⟨T, .int (i : Nat), x, h1, h2, h3, rfl, h4⟩⟩
def iEnumTR (K : PySem.W.Frag) (ta : TA) : TI := fun σ H R => ta σ H fun vs H1 => ∃ a xs, vs = [.ref a] ∧ SqT K H1 a xs ∧ R (IteT K a xs) H1
theorem pi_enumT {X : Cx} {e : Expr} {ta : TA} {p pos tpos : Pos} {elts : List Expr} {kk : Nat} (hg : Gl X "enumerate") (hm : X.mg "enumerate" = none) (ha : PA X [e] ta) (hs : starEach [e] X.env = [(false, eval e X.env)] := by rfl) :
    PI X (.Tuple elts kk tpos) (.Call (.Name "enumerate" p) [e] [] pos) (iEnumTR X.K ta) := by
  refine ⟨fun pins s σ H R I h => ?_⟩
  refine Call_ (ld_blt I hg hm boot_enumerate (PyProof.Rows.callWith_type1 (thn (ha.run pos pins s σ H _ I h) fun us s1 ⟨vs, H1, I1, r1, a, xs, ev, hq, q⟩ => ?_) hs rfl))
  subst ev
  cases r1 with
  | cons r rr =>
    cases rr
    cases r
    obtain ⟨its, rv, tp, hz⟩ := I1.tuple hq
    refine enum1 (begins_tuple a its.toArray) tp fun h' hen hit hk => wpAny_pyIter_enum hen ?_
    have I2 : Inv X pins σ H1 { s1 with heap := h' } := I1.kept (t' := s1.toks) hk
    have lt := tp.lt
    refine ⟨s1.heap.objs.size + 1, [s1.heap.objs.size + 1, s1.heap.objs.size], _, _, H1, rfl, I2, turn_enumT rv (Nat.ne_of_lt lt) (Nat.ne_of_lt (Nat.lt_succ_of_lt lt)), ⟨⟨.none, hen⟩, ⟨_, hit, rfl, rfl⟩, Nat.succ_ne_self _⟩, fun b hb => ?_, q⟩
    have hle : s1.heap.objs.size ≤ b := by
      rcases (by simpa using hb : b = s1.heap.objs.size + 1 ∨ b = s1.heap.objs.size) with z | z
      · rw [z]; exact Nat.le_succ _
      · rw [z]; exact Nat.le_refl _
    exact I1.fpOk hle (I1.hok.fresh hle)
section
variable {X : Cx} {Wx : WX} {e : Expr} {m : EM} {p pos tpos : Pos} {elts : List Expr} {kk : Nat}
theorem PI.orr {X : Cx} {tg e : Expr} {t t' : TI} (h : PI X tg e t) (h' : PI X tg e t') : PI X tg e (fun σ H R => t σ H R ∨ t' σ H R) := ⟨fun pins s σ H R I q => q.elim (h.run pins s σ H R I) (h'.run pins s σ H R I)⟩
theorem PE.orr {X : Cx} {e : Expr} {t t' : TE} (h : PE X e t) (h' : PE X e t') : PE X e (fun σ H Q => t σ H Q ∨ t' σ H Q) := ⟨fun pins s σ H Q I q => q.elim (h.run pins s σ H Q I) (h'.run pins s σ H Q I)⟩
theorem enum_rep {C : Cn} {W1 W2 : Wd} {ds : List D} {xs : List V} {i : Nat} {x : V} {H' : Hp} (ok2 : WOk C W2) (hr : RepL C W1 ds xs) (e2 : Mn W1 W2) (y : YPair (fun i => some (.int (i : Nat))) (fun i => xs[i]?) i W2.H x H') :
    ∃ W3 d, W3.H = H' ∧ W3.st = W2.st ∧ WOk C W3 ∧ Ext W2 W3 ∧ (enums 0 ds)[i]? = some d ∧ Rep C W3 d x := by
  obtain ⟨T, a, b, rfl, hT, rfl, ha, hb⟩ := y
  cases ha
  obtain ⟨d, hd, hrd⟩ := hr.getV hb
  refine ⟨W2.lay T (.tup [.int (i : Nat), b]), .tup [.int (0 + (i : Nat)), d], rfl, rfl, lay_ok ok2 hT _, lay_ext ok2 hT _, enums_get hd, lay_tup ok2 hT (.cons ?_ (.cons (hrd.mn e2) .nil))⟩
  rw [Int.zero_add]; exact .int _
theorem pdi_enumL (h : PD X Wx e m) (hm : X.mg "enumerate" = none) (hg : Gl X "enumerate" := by rfl) (hs : starEach [e] X.env = [(false, eval e X.env)] := by rfl) : PDI X Wx (.Tuple elts kk tpos) (.Call (.Name "enumerate" p) [e] [] pos) (iEnumL m) :=
  ⟨PI.weak (pi_enum hg hm (pa_cons h.pe pa_nil hs) hs) fun σ H R ⟨W, en, eH, ok, er, q⟩ => by
    subst eH
    refine seqI ok er q fun d W1 v ok1 e1 er1 r1 q1 => ?_
    cases d with
    | lst ds =>
      obtain ⟨a, xs, rfl, hl, hr⟩ := r1.lst_inv
      refine ⟨a, xs, rfl, hl.sq, ?_⟩
      exact q1 W1 _ _ (fun H => SqL X.K H a xs) rfl ok1 (Ext.refl _) (by rw [enums_len, hr.length]; exact walk_enum) (fun W2 ok2 e2 => (hl.mn e2).sq) fun i W2 x H' hi ok2 e2 y => enum_rep ok2 hr e2 y
    | _ => exact q1.elim⟩
def iEnumT (m : EM) : IM := fun en st => mb (m en st) fun d st => match d with | .tup ds => .ok (enums 0 ds) st | _ => .bad
theorem pdi_enumT (h : PD X Wx e m) (hm : X.mg "enumerate" = none) (hg : Gl X "enumerate" := by rfl) (hs : starEach [e] X.env = [(false, eval e X.env)] := by rfl) : PDI X Wx (.Tuple elts kk tpos) (.Call (.Name "enumerate" p) [e] [] pos) (iEnumT m) :=
  ⟨PI.weak (pi_enumT hg hm (pa_cons h.pe pa_nil hs) hs) fun σ H R ⟨W, en, eH, ok, er, q⟩ => by
    subst eH
    refine seqI ok er q fun d W1 v ok1 e1 er1 r1 q1 => ?_
    cases d with
    | tup ds =>
      obtain ⟨a, xs, rfl, hl, hr⟩ := r1.tup_inv
      refine ⟨a, xs, rfl, hl.sq, ?_⟩
      exact q1 W1 _ _ (fun H => SqT X.K H a xs) rfl ok1 (Ext.refl _) (by rw [enums_len, hr.length]; exact walk_enumT) (fun W2 ok2 e2 => (hl.mn e2).sq) fun i W2 x H' hi ok2 e2 y => enum_rep ok2 hr e2 y
    | _ => exact q1.elim⟩
def rowE : D → Option (List D) | .lst ds => some ds | .tup ds => some ds | _ => none
def iEnum' (m : EM) : IM := fun en st => mb (m en st) fun d st => lift ((rowE d).map (enums 0)) st
theorem pdi_enum (h : PD X Wx e m) (hm : X.mg "enumerate" = none) (hg : Gl X "enumerate" := by rfl) (hs : starEach [e] X.env = [(false, eval e X.env)] := by rfl) : PDI X Wx (.Tuple elts kk tpos) (.Call (.Name "enumerate" p) [e] [] pos) (iEnum' m) :=
  ⟨PI.weak (PI.orr (pdi_enumL h hm hg hs).pi (pdi_enumT h hm hg hs).pi) fun σ H R ⟨W, en, eH, ok, er, q⟩ => by
    subst eH
    unfold iEnum' at q
    cases hd : m en W.st with
    | bad => rw [hd] at q; exact q.elim
    | err x st => rw [hd] at q; exact .inl ⟨W, en, rfl, ok, er, by unfold iEnumL; rw [hd]; exact q⟩
    | ok d st =>
      rw [hd] at q
      cases d with
      | lst ds => exact .inl ⟨W, en, rfl, ok, er, by unfold iEnumL; rw [hd]; exact q⟩
      | tup ds => exact .inr ⟨W, en, rfl, ok, er, by unfold iEnumT; rw [hd]; exact q⟩
      | _ => exact q.elim⟩
end
/-! ## d[k], d[k] = v of dicts -/
def getK : List Key → List D → Key → Option D
  | k :: ks, d :: ds, j => if k = j then some d else getK ks ds j
  | _, _, _ => none
def hasK (ks : List Key) (j : Key) : Bool := ks.any fun k => decide (k = j)
def setK : List Key → List D → Key → D → List D
  | k :: ks, d :: ds, j, v => (if k = j then v else d) :: setK ks ds j v
  | _, ds, _, _ => ds
theorem getK_rep {C : Cn} {W : Wd} : ∀ {ks : List Key} {ds : List D} {vs : List V} {j : Key} {d : D}, RepL C W ds vs → getK ks ds j = some d → ∃ v, valV (ks.zip vs) j = some v ∧ Rep C W d v
  | k :: ks, d :: ds, _, j, d', r, h => by
    obtain ⟨v, t, rfl, h1, h2⟩ := r.cons_inv
    unfold getK at h
    by_cases c : k = j
    · rw [if_pos c] at h; cases h
      exact ⟨v, valV_pos c, h1⟩
    · rw [if_neg c] at h
      obtain ⟨u, e, q⟩ := getK_rep h2 h
      exact ⟨u, by rw [List.zip_cons_cons, valV_neg c]; exact e, q⟩
  | [], _, _, _, _, _, h => by unfold getK at h; cases h
  | _ :: _, [], _, _, _, _, h => by unfold getK at h; cases h
theorem setK_len : ∀ {ks : List Key} {ds : List D} {j : Key} {d : D}, (setK ks ds j d).length = ds.length
  | k :: ks, d :: ds, j, v => by unfold setK; rw [List.length_cons, List.length_cons, setK_len]
  | [], _, _, _ => by unfold setK; rfl
  | _ :: _, [], _, _ => by unfold setK; rfl
theorem setK_rep {C : Cn} {W : Wd} : ∀ {ks : List Key} {ds : List D} {vs : List V} {j : Key} {d : D} {v : V}, RepL C W ds vs → Rep C W d v → ks.length = vs.length →
    ∃ us, (ks.zip vs).map (fun kv => if kv.1 = j then (kv.1, v) else kv) = ks.zip us ∧ us.length = vs.length ∧ RepL C W (setK ks ds j d) us
  | k :: ks, d :: ds, _, j, d', v', r, rv, hl => by
    obtain ⟨v, t, rfl, h1, h2⟩ := r.cons_inv
    obtain ⟨us, e1, e2, e3⟩ := setK_rep (ks := ks) (j := j) h2 rv (by simpa using hl)
    by_cases c : k = j
    · refine ⟨v' :: us, ?_, by simp [e2], ?_⟩
      · rw [List.zip_cons_cons, List.map_cons, e1, List.zip_cons_cons, if_pos c]
      · unfold setK; rw [if_pos c]; exact .cons rv e3
    · refine ⟨v :: us, ?_, by simp [e2], ?_⟩
      · rw [List.zip_cons_cons, List.map_cons, e1, List.zip_cons_cons, if_neg c]
      · unfold setK; rw [if_neg c]; exact .cons h1 e3
  | [], ds, vs, _, _, _, r, _, hl => by
    cases vs with
    | nil => exact ⟨[], rfl, rfl, by unfold setK; exact r⟩
    | cons => cases hl
  | _ :: _, [], _, _, _, _, r, _, hl => by rw [r.nil_inv] at hl; cases hl
def dctB (st : Sto) : D → Option (List Key × List D)
  | .dct ks ds => some (ks, ds)
  | .cell n => match st[n]? with | some (.dct ks ds) => some (ks, ds) | _ => none
  | _ => none
theorem dct_of {X : Cx} {W : Wd} {d : D} {v : V} {ks : List Key} {ds : List D} (ok : WOk (cn X) W) (r : Rep (cn X) W d v) (h : dctB W.st d = some (ks, ds)) : ∃ a vs, v = .ref a ∧ W.H a = some (.dK (ks.zip vs)) ∧ ks.length = vs.length ∧ RepL (cn X) W ds vs := by
  cases d with
  | dct ks' ds' =>
    cases h
    unfold Rep at r
    obtain ⟨a, xs, rfl, h1, _, h2, h3⟩ := r
    exact ⟨a, xs, rfl, h1, h2, h3⟩
  | cell n =>
    have h : (match W.st[n]? with | some (.dct ks ds) => some (ks, ds) | _ => none) = some (ks, ds) := h
    cases e : W.st[n]? with
    | none => rw [e] at h; cases h
    | some c =>
      rw [e] at h
      cases c with
      | dct ks' ds' =>
        cases h
        obtain ⟨a, xs, rfl, _, h1, h2, h3⟩ := cell_dct ok r e
        exact ⟨a, xs, rfl, h1, h2, h3⟩
      | _ => cases h
  | _ => cases h
def ixK (a b : D) (st : Sto) : Option D := (dctB st a).bind fun p => (keyD b).bind fun k => getK p.1 p.2 k
def ixE (a b : D) (st : Sto) : Option D := (ixD a b st).or (ixK a b st)
section
variable {X : Cx} {Wx : WX} {a b : Expr} {ma mb' : EM} {pos : Pos} {k : Nat}
theorem pd_ixK (g : RG k X.A) (ha : PD X Wx a ma) (hb : PD X Wx b mb') (hs : NoSl b := by first | (intro _ _; rfl) | exact plainIx_const _) : PD X Wx (.Subscript a b pos) (mOp ixK ma mb') :=
  ⟨PE.weak (pe_dget (by have := g.low (n := 1) (by decide); omega) ha.pe hb.pe hs) fun σ H Q ⟨W, en, eH, ok, er, q⟩ => by
    subst eH
    refine seqE ok er q fun x W1 v ok1 e1 er1 r1 q1 => ?_
    refine seqE ok1 er1 q1 fun y W2 u ok2 e2 er2 r2 q2 => ?_
    cases hi : ixK x y W2.st with
    | none => rw [hi] at q2; exact q2.elim
    | some d =>
      rw [hi] at q2
      obtain ⟨⟨ks, ds⟩, h1, h2⟩ := Option.bind_eq_some_iff.mp hi
      obtain ⟨kk, h3, h4⟩ := Option.bind_eq_some_iff.mp h2
      obtain ⟨p, vs, rfl, hH, hl, hr⟩ := dct_of ok2 (r1.ext e2) h1
      obtain ⟨z, hz, rz⟩ := getK_rep hr h4
      exact ⟨p, z, rfl, .inl ⟨_, kk, .inl hH, keyD_v r2 h3, hz.symm⟩, q2 W2 z rfl ok2 (Ext.refl _) rz⟩⟩
theorem pd_ixE (g : RG k X.A) (ha : PD X Wx a ma) (hb : PD X Wx b mb') (hs : PlainIx b := by first | (intro _ _; rfl) | exact plainIx_const _) (hs2 : NoSl b := by first | (intro _ _; rfl) | exact plainIx_const _) : PD X Wx (.Subscript a b pos) (mOp ixE ma mb') :=
  ⟨PE.weak (PE.orr (pd_ix ha hb hs).pe (pd_ixK g ha hb hs2).pe) fun σ H Q ⟨W, en, eH, ok, er, q⟩ => by
    subst eH
    unfold mOp at q
    cases h1 : ma en W.st with
    | bad => rw [h1] at q; exact q.elim
    | err x st => rw [h1] at q; exact .inl ⟨W, en, rfl, ok, er, by unfold mOp; rw [h1]; exact q⟩
    | ok x st =>
      rw [h1] at q
      have q : PostE (cn X) Wx W σ Q (mb (mb' en st) fun y st => lift (ixE x y st) st) := q
      cases h2 : mb' en st with
      | bad => rw [h2] at q; exact q.elim
      | err z st2 => rw [h2] at q; exact .inl ⟨W, en, rfl, ok, er, by unfold mOp; rw [h1]; show PostE _ _ _ _ _ (mb (mb' en st) _); rw [h2]; exact q⟩
      | ok y st2 =>
        rw [h2] at q
        have q : PostE (cn X) Wx W σ Q (lift (ixE x y st2) st2) := q
        cases h3 : ixD x y st2 with
        | some d =>
          have : ixE x y st2 = some d := by unfold ixE; rw [h3]; rfl
          rw [this] at q
          exact .inl ⟨W, en, rfl, ok, er, by unfold mOp; rw [h1]; show PostE _ _ _ _ _ (mb (mb' en st) _); rw [h2]; show PostE _ _ _ _ _ (lift (ixD x y st2) st2); rw [h3]; exact q⟩
        | none =>
          have : ixE x y st2 = ixK x y st2 := by unfold ixE; rw [h3]; rfl
          rw [this] at q
          exact .inr ⟨W, en, rfl, ok, er, by unfold mOp; rw [h1]; show PostE _ _ _ _ _ (mb (mb' en st) _); rw [h2]; exact q⟩⟩
end
end Pd

namespace Pd
open PySem PySem.Spec L2
open PyProof.Rows hiding St
variable [Codes]
section
variable {X : Cx} {Wx : WX} {e o i : Expr} {m mo mi : EM} {pos : Pos} {k : Nat}
/-- cell[i] = v, cell[key] = v -/
def putD (o i d : D) (st : Sto) : Option Sto := match o with
  | .cell n => (match st[n]? with
    | some (.lst ds) => (match i with
      | .int j => (ixN ds.length j).map fun z => st.set n (.lst (ds.set z d))
      | _ => none)
    | some (.dct ks ds) => (keyD i).bind fun j => if ks.length < sizeLine ∧ ks.length = ds.length then some (if hasK ks j = true then st.set n (.dct ks (setK ks ds j d)) else st.set n (.dct (ks ++ [j]) (ds ++ [d]))) else none
    | _ => none)
  | _ => none
def sPut (mo mi m : EM) : SM := fun en st => smb (m en st) en fun d st => smb (mo en st) en fun o st => smb (mi en st) en fun i st => match putD o i d st with | some st' => .nx en st' | none => .bad
theorem PSet.orr {t t' : TSet} (h : PSet X t) (h' : PSet X t') : PSet X (fun o i v H Q => t o i v H Q ∨ t' o i v H Q) := fun pins s σ H o i v ov iv u Q I r1 r2 r3 q => q.elim (h pins s σ H o i v ov iv u Q I r1 r2 r3) (h' pins s σ H o i v ov iv u Q I r1 r2 r3)
theorem zip_any {ks : List Key} {vs : List V} {j : Key} (hl : ks.length = vs.length) : ((ks.zip vs).any fun kv => decide (kv.1 = j)) = hasK ks j := by
  unfold hasK
  induction ks generalizing vs with
  | nil => rfl
  | cons k ks ih =>
    cases vs with
    | nil => cases hl
    | cons v vs => rw [List.zip_cons_cons, List.any_cons, List.any_cons, ih (by simpa using hl)]
theorem pds_put (g : RG k X.A) (he : PD X Wx e m) (ho : PD X Wx o mo) (hi : PD X Wx i mi) {pos' : Pos} (ha : ∀ v, assign (.Subscript o i pos') X.env v = (do
      let ov ← holding [v] (eval o X.env)
      let iv ← holding [v, ov] (eval i X.env)
      standAt pos'
      holding [v, ov, iv] (setItem ov iv v)
      release [v, ov, iv] []) := by intro _; rfl) (hs : swapsWithSole [.Subscript o i pos'] e pos.line X.env = pure false := by rfl) (hw : swappedStores [.Subscript o i pos'] e X.env = pure none := by rfl)
    (h1 : (assignEach [.Subscript o i pos'] X.env).map (·.2) = [assign (.Subscript o i pos') X.env] := by rfl) : PDS X Wx (.Assign [.Subscript o i pos'] e pos) (sPut mo mi m) :=
  ⟨PS.weak (ps_asg he.pe (pg_sub ho.pe hi.pe (PSet.orr set_list (set_dict (by have := g.low (n := 1) (by decide); omega))) ha) hs hw h1) fun D σ H ⟨W, en, eH, ok, er, q⟩ => by
    subst eH
    refine seqS ok er q fun d W1 v ok1 e1 er1 r1 q1 => ?_
    refine seqS ok1 er1 q1 fun dO W2 vo ok2 e2 er2 r2 q2 => ?_
    refine seqS ok2 er2 q2 fun dI W3 vi ok3 e3 er3 r3 q3 => ?_
    have r1 := (r1.ext e2).ext e3
    have r2 := r2.ext e3
    cases dO with
    | cell n =>
      have q3 : PostS (cn X) Wx W3 D (match (match W3.st[n]? with
        | some (.lst ds) => (match dI with
          | .int j => (ixN ds.length j).map fun z => W3.st.set n (.lst (ds.set z d))
          | _ => none)
        | some (.dct ks ds) => (keyD dI).bind fun j => if ks.length < sizeLine ∧ ks.length = ds.length then some (if hasK ks j = true then W3.st.set n (.dct ks (setK ks ds j d)) else W3.st.set n (.dct (ks ++ [j]) (ds ++ [d]))) else none
        | _ => none) with | some st' => .nx en st' | none => .bad) := q3
      cases hst : W3.st[n]? with
      | none => rw [hst] at q3; exact q3.elim
      | some c =>
        rw [hst] at q3
        cases c with
        | lst ds =>
          cases dI with
          | int j =>
            have q3 : PostS (cn X) Wx W3 D (match (ixN ds.length j).map fun z => W3.st.set n (.lst (ds.set z d)) with | some st' => .nx en st' | none => .bad) := q3
            cases hj : ixN ds.length j with
            | none => rw [hj] at q3; exact q3.elim
            | some z =>
              rw [hj] at q3
              obtain ⟨a, xs, rfl, hA, hH, hr⟩ := cell_lst ok3 r2 hst
              refine .inl ⟨a, xs, j, z, rfl, r3.int_inv, hH, by rw [← hr.length]; exact hj, ?_⟩
              exact q3 (W3.put n a (.lst (xs.set z v)) (.lst (ds.set z d))) σ rfl (put_lst_ok ok3 hA hst rfl (hr.set z r1)) (put_ext ok3 hA hst rfl _ _) (er3.ext (put_ext ok3 hA hst rfl _ _))
          | _ => exact q3.elim
        | dct ks ds =>
          have q3 : PostS (cn X) Wx W3 D (match (keyD dI).bind fun j => if ks.length < sizeLine ∧ ks.length = ds.length then some (if hasK ks j = true then W3.st.set n (.dct ks (setK ks ds j d)) else W3.st.set n (.dct (ks ++ [j]) (ds ++ [d]))) else none with | some st' => .nx en st' | none => .bad) := q3
          cases hk : keyD dI with
          | none => rw [hk] at q3; exact q3.elim
          | some j =>
            rw [hk] at q3
            have q3 : PostS (cn X) Wx W3 D (match (if ks.length < sizeLine ∧ ks.length = ds.length then some (if hasK ks j = true then W3.st.set n (.dct ks (setK ks ds j d)) else W3.st.set n (.dct (ks ++ [j]) (ds ++ [d]))) else none) with | some st' => .nx en st' | none => .bad) := q3
            by_cases c : ks.length < sizeLine ∧ ks.length = ds.length
            · rw [if_pos c] at q3
              obtain ⟨a, xs, rfl, hA, hH, hl, hr⟩ := cell_dct ok3 r2 hst
              have hz : (ks.zip xs).length < sizeLine := by rw [List.length_zip]; omega
              have kv := keyD_v r3 hk
              subst kv
              by_cases ck : hasK ks j = true
              · have q3 : PostS (cn X) Wx W3 D (match some (if hasK ks j = true then W3.st.set n (.dct ks (setK ks ds j d)) else W3.st.set n (.dct (ks ++ [j]) (ds ++ [d]))) with | some st' => .nx en st' | none => .bad) := q3
                rw [if_pos ck] at q3
                obtain ⟨us, e1', e2', e3'⟩ := setK_rep (j := j) hr r1 hl
                have hp : putK (ks.zip xs) j v = ks.zip us := by unfold putK; rw [zip_any hl, if_pos ck, e1']
                refine .inr ⟨a, _, rfl, DPut.k hH hz, ?_⟩
                rw [hp]
                have ee := put_ext ok3 hA hst rfl (.dK (ks.zip us)) (.dct ks (setK ks ds j d))
                exact q3 (W3.put n a (.dK (ks.zip us)) (.dct ks (setK ks ds j d))) σ rfl (put_dct_ok ok3 hA hst rfl (by omega) e3') ee (er3.ext ee)
              · have q3 : PostS (cn X) Wx W3 D (match some (if hasK ks j = true then W3.st.set n (.dct ks (setK ks ds j d)) else W3.st.set n (.dct (ks ++ [j]) (ds ++ [d]))) with | some st' => .nx en st' | none => .bad) := q3
                rw [if_neg ck] at q3
                have hp : putK (ks.zip xs) j v = (ks ++ [j]).zip (xs ++ [v]) := by
                  unfold putK
                  rw [zip_any hl, if_neg ck, List.zip_append hl]; rfl
                refine .inr ⟨a, _, rfl, DPut.k hH hz, ?_⟩
                rw [hp]
                have ee := put_ext ok3 hA hst rfl (.dK ((ks ++ [j]).zip (xs ++ [v]))) (.dct (ks ++ [j]) (ds ++ [d]))
                exact q3 (W3.put n a (.dK ((ks ++ [j]).zip (xs ++ [v]))) (.dct (ks ++ [j]) (ds ++ [d]))) σ rfl (put_dct_ok ok3 hA hst rfl (by simp [hl]) (hr.append (.cons r1 .nil))) ee (er3.ext ee)
            · rw [if_neg c] at q3; exact q3.elim
        | _ => exact q3.elim
    | _ => exact q3.elim⟩
end
/-! ## list.extend of a list that stays -/
def extendG : GM2 := fun o ds st => match o, ds with
  | .cell n, [.lst fs] => (match st[n]? with | some (.lst es) => if es.length + fs.length ≤ sizeLine then some (.non, st.set n (.lst (es ++ fs))) else none | _ => none)
  | _, _ => none
theorem mt_extendD {X : Cx} : MtD X "list.extend" extendG := by
  intro pins s σ H x xs v us Q I rx rv ⟨W, o, ds, d, st, e, ok, ro, rd, hg, q⟩
  subst e
  unfold extendG at hg
  split at hg
  · rename_i n fs
    obtain ⟨y, rfl, r1⟩ := rd.one
    split at hg
    · rename_i es e1
      by_cases c : es.length + fs.length ≤ sizeLine
      · rw [if_pos c] at hg
        cases hg
        obtain ⟨a, ys, rfl, ha, hH, z⟩ := cell_lst ok ro e1
        obtain ⟨b, zs, rfl, hb, zb⟩ := r1.lst_inv
        exact mt_extend pins s σ _ _ _ v us Q I rx rv ⟨a, b, ys, zs, rfl, rfl, hH, hb.1, by rw [← z.length, ← zb.length]; exact c, q (W.put n a (.lst (ys ++ zs)) (.lst (es ++ fs))) .non rfl (put_lst_ok ok ha e1 rfl (z.append zb)) (put_ext ok ha e1 rfl _ _) .non⟩
      · rw [if_neg c] at hg; cases hg
    · cases hg
  · cases hg
/-! ## calls with keywords -/
def permL {α : Type} (ix : List Nat) (l : List α) : List α := ix.filterMap fun j => l[j]?
theorem permL_rep {C : Cn} {W : Wd} {ds : List D} {vs : List V} (r : RepL C W ds vs) : ∀ ix : List Nat, RepL C W (permL ix ds) (permL ix vs)
  | [] => .nil
  | j :: ix => by
    unfold permL
    cases h : ds[j]? with
    | none =>
      have h2 : vs[j]? = none := by rw [List.getElem?_eq_none_iff] at h ⊢; rw [← r.length]; exact h
      rw [List.filterMap_cons, List.filterMap_cons, h, h2]
      exact permL_rep r ix
    | some d =>
      obtain ⟨v, hv, q⟩ := r.get h
      rw [List.filterMap_cons, List.filterMap_cons, h, hv]
      exact .cons q (permL_rep r ix)
theorem permL_vals {vs : List V} {us : List Value} (r : Vals vs us) : ∀ ix : List Nat, Vals (permL ix vs) (permL ix us)
  | [] => .nil
  | j :: ix => by
    unfold permL
    cases h : vs[j]? with
    | none =>
      have h2 : us[j]? = none := by rw [List.getElem?_eq_none_iff] at h ⊢; rw [← r.length]; exact h
      rw [List.filterMap_cons, List.filterMap_cons, h, h2]
      exact permL_vals r ix
    | some v =>
      obtain ⟨u, hu, q⟩ := r.get h
      rw [List.filterMap_cons, List.filterMap_cons, h, hu]
      exact .cons q (permL_vals r ix)
structure KwB (fd : FuncData) (ps : List Str) (n : Nat) (ks : List Str) (ix : List Nat) : Prop where
  to : ∀ (s : Shared) (us ws : List Value), us.length = n → ws.length = ks.length → BindsTo s fd ⟨us, ks.zip ws⟩ (ps.zip (permL ix (us ++ ws)))
theorem kwb_of {K : PySem.W.Frag} {x qual : Str} {st : Stmt} {f : Addr} {fd : FuncData} {ps ks : List Str} {n : Nat} {ix : List Nat} (F : Fun K x qual st f fd)
    (h : ∀ (kV doc pm : Value) (an : Option Addr) (cdv ct : Value) (us ws : List Value), us.length = n → ws.length = ks.length → bindArgs (PySem.W.fnOf x qual (defArgs st) (defBody st) (defScope st) .none kV doc pm an cdv ct) ⟨us, ks.zip ws⟩ = pure (ps.zip (permL ix (us ++ ws)))) : KwB fd ps n ks ix := by
  obtain ⟨oc, od, kV, doc, pm, an, cdv, ct, osl, rfl, lk, hcd⟩ := F.ex
  exact ⟨fun s us ws h1 h2 => .of_eq (h kV doc pm an cdv ct us ws h1 h2)⟩
section
variable {X : Cx} {Wx : WX} {k n : Nat} {f : Addr} {fd : FuncData} {ps ks : List Str} {x : Str} {p pos kpos : Pos} {e : Expr} {es : List Expr} {kws : List Keyword} {lm lk : LM} {G : FM} {m : EM} {ix : List Nat} {nm : Option Str}
structure PDK (X : Cx) (Wx : WX) (kws : List Keyword) (m : LM) : Prop where
  pk : PK X kws (tDL (cn X) Wx m)
theorem PK.weak {kws : List Keyword} {t t' : TA} (h : PK X kws t) (f : ∀ σ H Q, t' σ H Q → t σ H Q) : PK X kws t' := ⟨fun pos pins s σ H Q I q => h.run pos pins s σ H Q I (f σ H Q q)⟩
theorem pdk_nil : PDK X Wx [] lNil := ⟨PK.weak pk_nil fun σ H Q ⟨W, en, eH, ok, er, q⟩ => by subst eH; exact q W [] rfl ok (Ext.refl _) .nil⟩
theorem pdk_cons (h : PDK X Wx kws lm) (he : PD X Wx e m) : PDK X Wx (⟨nm, e, kpos⟩ :: kws) (lCons m lm) :=
  ⟨PK.weak (pk_cons he.pe h.pk) fun σ H Q ⟨W, en, eH, ok, er, q⟩ => by
    subst eH
    refine seqL ok er q fun d W1 v ok1 e1 er1 r1 q1 => ?_
    refine seqLL ok1 er1 q1 fun ds W2 vs ok2 e2 er2 r2 q2 => ?_
    exact q2 W2 (v :: vs) rfl ok2 (Ext.refl W2) (.cons (r1.ext e2) r2)⟩
def mCallK (G : FM) (np n nk : Nat) (ix : List Nat) (lm lk : LM) : EM := fun en st => mb (lm en st) fun ds st => mb (lk en st) fun zs st => if ds.length = n ∧ zs.length = nk ∧ (permL ix (ds ++ zs)).length = np then G (permL ix (ds ++ zs)) st else .bad
theorem run_fnK {sp : Sp} {E : XK} {pins : List (Addr × Obj)} {σ : St} {H : Hp} {s : Shared} {Q : VK} {us ws : List Value} {vs zs : List V} (F : FnG X.prog X.w X.K X.mg X.base k f fd ps sp) (hr : RG k X.A) (hb : KwB fd ps n ks ix) (hx : PassesAt (L2.CX X.prog X.w) X σ E)
    (I : Inv X pins σ H s) (r : Vals vs us) (rz : Vals zs ws) (l1 : vs.length = n) (l2 : zs.length = ks.length) (h : sp (permL ix (vs ++ zs)) H Q E) : wpAny (model X.prog X.w) X.A (call (.ref f) us (ks.zip ws)) (EP X pins σ Q) X.xe s := by
  have app : Vals (vs ++ zs) (us ++ ws) := r.append rz
  refine wpAny_call (codeAny_mono (F.run X.A X.stack s H ⟨us, ks.zip ws⟩ (permL ix (us ++ ws)) (permL ix (vs ++ zs)) Q E hr I.env0 (hb.to s us ws (r.length.symm.trans l1) (rz.length.symm.trans l2)) (permL_vals app ix) h) ?_)
  rintro (e | fl) s' hq
  · exact hx pins H s e s' I hq
  · cases fl with
    | ret u => exact I.after hq
    | next => exact hq.elim
    | brk => exact hq.elim
    | cont => exact hq.elim
theorem kw_mid {W : Wd} {σ : St} {en : En} {Q : VK} {np : Nat} (ok : WOk (cn X) W) (er : EnvR (cn X) W σ en) (q : PostE (cn X) Wx W σ Q (mCallK G np n ks.length ix lm lk en W.st)) :
    tDL (cn X) Wx lm σ W.H fun vs H1 => tDL (cn X) Wx lk σ H1 fun zs H2 => vs.length = n ∧ zs.length = ks.length ∧ spD (cn X) np G (permL ix (vs ++ zs)) H2 Q (WE Wx σ) := by
  refine seqLE ok er q fun ds W1 vs ok1 e1 er1 r1 q1 => ?_
  refine seqLE ok1 er1 q1 fun zs W2 us ok2 e2 er2 r2 q2 => ?_
  by_cases c : ds.length = n ∧ zs.length = ks.length ∧ (permL ix (ds ++ zs)).length = np
  · rw [if_pos c] at q2
    refine ⟨by rw [← r1.length]; exact c.1, by rw [← r2.length]; exact c.2.1, W2, permL ix (ds ++ zs), rfl, ok2, permL_rep ((r1.ext e2).append r2) ix, c.2.2, ?_⟩
    cases hG : G (permL ix (ds ++ zs)) W2.st with
    | ok d st => rw [hG] at q2; exact q2
    | err x st => rw [hG] at q2; exact q2
    | bad => rw [hG] at q2; exact q2.elim
  · rw [if_neg c] at q2; exact q2.elim
theorem pd_callK {np : Nat} (F : FnG X.prog X.w X.K X.mg X.base k f fd ps (spD (cn X) np G)) (hm : X.mg x = some (.ref f)) (hk : PySem.W.keepIn X.K (.ref f) = true) (hb : KwB fd ps n ks ix) (b : Bd X Wx k) (ha : PDA X Wx (e :: es) lm) (hkw : PDK X Wx kws lk)
    (hg : Gl X x := by rfl) (hall : (backToKw pos (keywordEach kws X.env)).all (·.1.isSome) = true := by rfl) (hks : (backToKw pos (keywordEach kws X.env)).filterMap (·.1) = ks := by rfl) (hdb : (x == ("__debug__" : Str)) = false := by decide) (he : starEach (e :: es) X.env = (false, eval e X.env) :: starEach es X.env := by rfl)
    (hpl : ((backTo pos (starEach (e :: es) X.env)).any (·.1) || (backToKw pos (keywordEach kws X.env)).any (·.1.isNone)) = false := by rfl) :
    PD X Wx (.Call (.Name x p) (e :: es) kws pos) (mCallK G np n ks.length ix lm lk) := by
  refine ⟨⟨fun pins s σ H Q I ⟨W, en, eH, ok, er, q⟩ => ?_⟩⟩
  subst eH
  refine wpAny_Call_Name_kw (ld_glob I hg hm ?_ hdb)
  refine PySem.W.callWith_KW (h₀ := X.base) I.ok.mod.kin hk hall (thn (ha.pa.run pos pins s σ _ _ I (kw_mid ok er q)) fun us s1 ⟨vs, H1, I1, r, q1⟩ => ?_) hpl he
  refine thn (hkw.pk.run pos pins s1 σ H1 _ I1 q1) fun ws s2 ⟨zs, H2, I2, rz, l1, l2, q2⟩ => ⟨I2.kIn, ?_⟩
  rw [hks]
  exact run_fnK F b.rg hb (passAt b.tk σ) I2 r rz l1 l2 q2
theorem pd_callK0 {np : Nat} (F : FnG X.prog X.w X.K X.mg X.base k f fd ps (spD (cn X) np G)) (hm : X.mg x = some (.ref f)) (hk : PySem.W.keepIn X.K (.ref f) = true) (hb : KwB fd ps 0 ks ix) (b : Bd X Wx k) (hkw : PDK X Wx kws lk)
    (hg : Gl X x := by rfl) (hall : (backToKw pos (keywordEach kws X.env)).all (·.1.isSome) = true := by rfl) (hks : (backToKw pos (keywordEach kws X.env)).filterMap (·.1) = ks := by rfl) (hdb : (x == ("__debug__" : Str)) = false := by decide)
    (hpl : ((backTo pos (starEach [] X.env)).any (·.1) || (backToKw pos (keywordEach kws X.env)).any (·.1.isNone)) = false := by rfl) :
    PD X Wx (.Call (.Name x p) [] kws pos) (mCallK G np 0 ks.length ix lNil lk) := by
  refine ⟨⟨fun pins s σ H Q I ⟨W, en, eH, ok, er, q⟩ => ?_⟩⟩
  subst eH
  refine wpAny_Call_Name_kw (ld_glob I hg hm ?_ hdb)
  have q1 : tDL (cn X) Wx lk σ W.H fun zs H2 => zs.length = ks.length ∧ spD (cn X) np G (permL ix ([] ++ zs)) H2 Q (WE Wx σ) := by
    have z := kw_mid (n := 0) ok er q
    obtain ⟨W1, en1, e1, ok1, er1, p1⟩ := z
    obtain ⟨W2, en2, e2, ok2, er2, p2⟩ := p1 W1 [] rfl ok1 (Ext.refl _) .nil
    refine ⟨W2, en2, by rw [e2, e1], ok2, er2, ?_⟩
    cases hl : lk en2 W2.st with
    | ok zs st => rw [hl] at p2; exact fun W' vs h1 h2 h3 h4 => (p2 W' vs h1 h2 h3 h4).2
    | err x st => rw [hl] at p2; exact p2
    | bad => rw [hl] at p2; exact p2
  refine PySem.W.callWith_KW0 (h₀ := X.base) I.ok.mod.kin hk hall (thn (hkw.pk.run pos pins s σ _ _ I q1) fun ws s2 ⟨zs, H2, I2, rz, l2, q2⟩ => ⟨I2.kIn, ?_⟩) hpl
  rw [hks]
  exact run_fnK (us := []) (vs := []) F b.rg hb (passAt b.tk σ) I2 .nil rz rfl l2 q2
end
end Pd

namespace Pd
open PySem PySem.Spec L2
open PyProof.Rows hiding St
variable [Codes]
/-! ## defs that make functions -/
structure FunM (K : PySem.W.Frag) (qual : Str) (st : Stmt) (f : Addr) (fd : FuncData) (c : Addr) : Prop where
  ex : ∃ (oc : Value) (od : Option Addr) (kV doc pm : Value) (an : Option Addr) (ct : Value) (osl : Array (Option Value)),
    fd = PySem.W.fnOf qual qual (defArgs st) (defBody st) (defScope st) .none kV doc pm an (.ref c) ct ∧ K.lookup f = some ⟨oc, od, .func fd, osl⟩ ∧ PySem.W.codeIn K (.ref c) qual = true
section
variable {P : Program} {w : World} {K : PySem.W.Frag} {mg : Str → Option Value} {base : Heap}
theorem fnDm {qual : Str} {st : Stmt} {f c : Addr} {fd : FuncData} {N ps : List Str} {k : Nat} {m : SM} (F : FunM K qual st f fd c) (S : FnScope N ps (defScope st))
    (hb : ∀ (A : Around) (outer : List Env) (s : Shared) (H : Hp) (E : XK), Bd (bodyCx P w K mg base N qual st f (.ref c) A outer s H E) (WxE E) k → PassesOwn (model P w) (bodyCx P w K mg base N qual st f (.ref c) A outer s H E).A (bodyCx P w K mg base N qual st f (.ref c) A outer s H E).env (bodyCx P w K mg base N qual st f (.ref c) A outer s H E).xe →
      PDSs (bodyCx P w K mg base N qual st f (.ref c) A outer s H E) (WxE E) (defBody st) m) :
    FnG P w K mg base (k + 1) f fd ps (spD ⟨K, mg⟩ ps.length (fnM N.length m)) := by
  obtain ⟨oc, od, kV, doc, pm, an, ct, osl, rfl, lk, hcd⟩ := F.ex
  refine fnG_of lk hcd S (fun vs H Q E h => ?_) fun A outer s H vs Q E hr h => ?_
  · obtain ⟨W, ds, _, _, r, hl, _⟩ := h
    rw [← r.length, hl]
  obtain ⟨W, ds, rfl, ok, r, hl, q⟩ := h
  refine ⟨_, (hb A outer s W.H E ⟨rfl, S.nd, takes_of rfl rfl rfl rfl, hr⟩ (passes_of rfl)).ps, W, _, rfl, ok, start_env r, ?_⟩
  unfold fnM at q
  cases hm : m (ds.map some ++ List.replicate (N.length - ds.length) none) W.st with
  | nx en st' => rw [hm] at q; exact fun W' σ' h1 h2 h3 _ => q W' _ h1 h2 h3 .non
  | rt d st' => rw [hm] at q; exact q
  | err e en st' => rw [hm] at q; exact fun W' σ' cls dd h1 h2 h3 _ h5 => q W' cls dd h1 h2 h3 h5
  | _ => rw [hm] at q; exact q.elim
theorem CloG.bad {k i : Nat} {ps : List Str} (fat : ∀ f cl c φ (h : Heap), Codes.ho i f cl c = .ext φ → φ h → PySem.W.FnAt f h) : CloG P w K mg base k i ps fun _ _ => .bad :=
  ⟨fat, fun A outer s f us vs W n ws ds Q E _ _ _ _ _ _ _ _ q => q.elim⟩
theorem lamO_fat {qual : Str} {params : Arguments} {scope : Scope} {body : Expr} {f c : Addr} {cl : List (Str × Addr)} {φ : Heap → Prop} {h : Heap} (e : LamO f qual params scope body cl c = .ext φ) (hφ : φ h) : PySem.W.FnAt f h := by
  unfold LamO at e
  cases e
  obtain ⟨od, sl, pm, ctv, z⟩ := hφ
  exact ⟨_, _, _, _, z⟩
theorem fnO_fat {F : NdefX.NF} {f : Addr} {φ : Heap → Prop} {h : Heap} (e : NdefX.FnO f F = .ext φ) (hφ : φ h) : PySem.W.FnAt f h := by
  unfold NdefX.FnO at e
  cases e
  obtain ⟨od, sl, doc, pm, ctv, z⟩ := hφ
  exact ⟨_, _, _, _, z⟩
end
def capB (sc scope : Scope) : Bool := scope.names.all fun y => !decide (y.2 = .free) || decide (sc.names.lookup y.1 = some .cell) || decide (sc.names.lookup y.1 = some .free)
theorem cap_mk {X : Cx} {scope : Scope} {i : Nat} {js : List Nat} {fr : List Str} (hf : Codes.fr i = fr) (h1 : decide (frOf scope = fr) = true) (h2 : decide fr.Nodup = true) (h3 : capB X.env.scope scope = true) (h4 : js.map (fun j => X.N[j]?) = fr.map some) (h5 : X.fn = fun _ => true) : Cap X scope i js :=
  ⟨by rw [hf]; exact of_decide_eq_true h1, by rw [hf]; exact of_decide_eq_true h2, fun y hy e => by
    have q := List.all_eq_true.mp h3 y hy
    simp only [Bool.or_eq_true, Bool.not_eq_true', decide_eq_true_eq, decide_eq_false_iff_not] at q
    rcases q with (q | q) | q
    · exact absurd e q
    · exact .inl q
    · exact .inr q, by rw [hf]; exact h4, fun x => by rw [h5]⟩
/-! ## parts of the text -/
def exArgs : Expr → List Expr | .Call (args := a) .. => a | _ => []
def retE : Stmt → Expr | .Return (some e) _ => e | _ => .Constant .none 0 ⟨0, 0, 0, 0⟩
def lamArgs : Expr → Arguments | .Lambda (args := a) .. => a | _ => ⟨[], [], none, [], [], none, []⟩
def lamBody : Expr → Expr | .Lambda (body := b) .. => b | _ => .Constant .none 0 ⟨0, 0, 0, 0⟩
def lamScope : Expr → Scope | .Lambda (scope := s) .. => s | _ => ⟨.function, [], false, false, []⟩
end Pd
namespace Pd
theorem tab_one {α β : Type} : ∀ {l : List (α × β)} {P : α} {nm : β}, (l.map (·.1)).Nodup → (P, nm) ∈ l → ∀ p ∈ l, p.1 = P → p.2 = nm
  | q :: l, P, nm, nd, h, p, hp, e => by
    rw [List.map_cons, List.nodup_cons] at nd
    rcases List.mem_cons.mp h with z | z <;> rcases List.mem_cons.mp hp with y | y
    · rw [y, ← z]
    · refine absurd ?_ nd.1
      rw [← z]; show P ∈ _
      rw [← e]; exact List.mem_map_of_mem (f := (·.1)) y
    · refine absurd ?_ nd.1
      rw [← y, e]; exact List.mem_map_of_mem (f := (·.1)) z
    · exact tab_one nd.2 z p y e
end Pd
namespace Pd
open PySem PySem.Spec L2
open PyProof.Rows hiding St
variable [Codes]
/-! ## x += y, x -= y of numbers and texts -/
def iaddD (a b : D) (_ : Sto) : Option D := match a, b with
  | .int i, .int j => some (.int (i + j))
  | .str x, .str y => if small (x.length + y.length) = true then some (.str (x ++ y)) else none
  | _, _ => none
def isubD (a b : D) (_ : Sto) : Option D := match a, b with
  | .int i, .int j => some (.int (i - j))
  | _, _ => none
theorem iop_iaddD {X : Cx} : OpD X (inplaceOp .Add) iaddD := by
  intro pins s σ H x y v u Q I rx ry ⟨W, a, b, d, e, ok, ra, rb, hg, q⟩
  subst e
  unfold iaddD at hg
  split at hg
  · rename_i i j
    cases hg
    obtain rfl := ra.int_inv
    obtain rfl := rb.int_inv
    exact flat_op iop_add I rx ry ⟨i, j, rfl, rfl, fin_flat ok q (.int _)⟩
  · rename_i i j
    obtain rfl := ra.str_inv
    obtain rfl := rb.str_inv
    split at hg
    · rename_i c
      cases hg
      exact flat_op iop_add_str I rx ry ⟨i, j, rfl, rfl, small_iff.mp c, fin_flat ok q (.str _)⟩
    · cases hg
  · cases hg
theorem iop_isubD {X : Cx} : OpD X (inplaceOp .Sub) isubD := by
  intro pins s σ H x y v u Q I rx ry ⟨W, a, b, d, e, ok, ra, rb, hg, q⟩
  subst e
  unfold isubD at hg
  split at hg
  · rename_i i j
    cases hg
    obtain rfl := ra.int_inv
    obtain rfl := rb.int_inv
    exact flat_op iop_sub I rx ry ⟨i, j, rfl, rfl, fin_flat ok q (.int _)⟩
  · cases hg
end Pd

/-! # own classes of errors over ValueError, over KeyError -/
namespace Px
open PySem PySem.HandSPX
open Builtin Builtin.ObjectAttr
/-- what the built-in __init__ of B says of itself -/
structure InF (B initId : String) : Prop where
  init : Slot B "__init__" initId
  entry : entryFor table initId = some Builtin.«BaseException.__init__»
  split : splitId initId = some (B, "__init__")
  kind : builtinKind initId = some .slot
  row : Manifest.signature? initId = some ⟨.positional, "*", B, .self, [⟨"args", .varPos, false⟩]⟩
  star : (B != "*") = true
theorem inF_VE : InF "ValueError" "ValueError.__init__" := ⟨F.excBase_ValueError.init, F.excBase_ValueError.initEntry, F.excBase_ValueError.initSplit, F.excBase_ValueError.initKind, F.excBase_ValueError.initRow, F.excBase_ValueError.noStar⟩
theorem inF_KE : InF "KeyError" "KeyError.__init__" := ⟨PyProof.Rows.excClass_KeyError.init, PyProof.Rows.excClass_KeyError.initEntry, PyProof.Rows.excClass_KeyError.initSplit, PyProof.Rows.excClass_KeyError.initKind, PyProof.Rows.excClass_KeyError.initSig, PyProof.Rows.excClass_KeyError.notStar⟩
abbrev keTail : List Value := [.type "KeyError", .type "LookupError", .type "Exception", .type "BaseException", .type "object"]
/-- what stands behind the own classes -/
structure XBase (t : List Value) (newId initId : String) : Prop where
  nw : ∃ (nB iX : String) (bmX : List Value), ExcBaseFacts nB newId iX bmX ∧ t.contains (.type nB) = true
  ini : ∃ iB : String, InF iB initId ∧ t.contains (.type iB) = true
  noA : t.contains (.type "AttributeError") = false
  noN : t.contains (.type "NameError") = false
  obj : t.contains (.type "object") = true
  ne : t.isEmpty = false
  pass : ∀ self : Value, refuseLoop self "__setattr__" t = pure ()
theorem xb_VE : XBase veTail "ValueError.__new__" "ValueError.__init__" :=
  ⟨⟨_, _, _, F.excBase_ValueError, by decide +kernel⟩, ⟨_, inF_VE, by decide +kernel⟩, by decide +kernel, by decide +kernel, by decide +kernel, rfl, fun s => F.store_ValueError.passes s⟩
theorem xb_KE : XBase keTail "LookupError.__new__" "KeyError.__init__" :=
  ⟨⟨_, _, _, F.excBase_LookupError, by decide +kernel⟩, ⟨_, inF_KE, by decide +kernel⟩, by decide +kernel, by decide +kernel, by decide +kernel, rfl, fun s => by kernel_rfl⟩
/-- own classes, then t -/
def refsT (t : List Value) : List Value → Bool
  | .ref c :: r => refsT t r
  | l => l == t
theorem refsT_or {t : List Value} : ∀ {l : List Value}, refsT t l = true → (∃ c r, l = .ref c :: r ∧ refsT t r = true) ∨ l = t := fun {l} h => by
  unfold refsT at h
  split at h
  · exact .inl ⟨_, _, rfl, h⟩
  · exact .inr (beq_iff_eq.mp h)
theorem refsT_ty {t : List Value} (X : String) : ∀ {l : List Value}, refsT t l = true → l.contains (.type X) = t.contains (.type X)
  | [], h => by rcases refsT_or h with ⟨_, _, z, _⟩ | z; · cases z
                · rw [z]
  | a :: l, h => by
    rcases refsT_or h with ⟨c, r, z, h2⟩ | z
    · cases z
      rw [List.contains_cons, refsT_ty X h2]; rfl
    · rw [z]
theorem refsT_pass {t : List Value} (p : ∀ self : Value, refuseLoop self "__setattr__" t = pure ()) (s : Value) : ∀ {l : List Value}, refsT t l = true → refuseLoop s "__setattr__" l = pure ()
  | [], h => by rcases refsT_or h with ⟨_, _, z, _⟩ | z; · cases z
                · rw [z]; exact p s
  | a :: l, h => by
    rcases refsT_or h with ⟨c, r, z, h2⟩ | z
    · cases z
      rw [refuseLoop_ref]; exact refsT_pass p s h2
    · rw [z]; exact p s
/-- the class object at C -/
structure XOb (h : Heap) (t : List Value) (newId : String) (C : Addr) : Prop where
  ob : ∃ nm q N bs bm hdct sn sub ab col dd k0 k1 k2 k3 k5, h.get? C = some (excClassObj nm q C N bs bm hdct sn sub ab col dd k0 k1 k2 k3 k5 newId) ∧ refsT t bm = true
theorem XOb.keep {h h' : Heap} {t : List Value} {n : String} {C : Addr} (x : XOb h t n C) (k : ∀ b o, h.get? b = some o → h'.get? b = some o) : XOb h' t n C := by
  obtain ⟨nm, q, N, bs, bm, hd, sn, sub, ab, col, dd, k0, k1, k2, k3, k5, e, r⟩ := x.ob
  exact ⟨nm, q, N, bs, bm, hd, sn, sub, ab, col, dd, k0, k1, k2, k3, k5, k _ _ e, r⟩
section
variable {prog : Program} {w : World} {A : Around} {E : Value → Shared → Prop} {R : Result → Shared → Prop} {h : Heap} {g : Array GenState} {d : Drawn} {k : Nat} {os : OsState} {t : List Value} {newId initId : String} {C : Addr} {xs : List Value}
/-- BaseException.__new__ for such a class -/
theorem xnew (X : XBase t newId initId) (O : XOb h t newId C) (hz : xs.length ≤ sizeLine)
    (hq : R (.ok (.ret (.ref (h.objs.size + 1)))) ⟨(h.push (W.kdv_tup xs)).push (excO C h.objs.size), g, d, k, os⟩) : codeAny (model prog w) A (.builtin newId ⟨.ref C :: xs, []⟩) R ⟨h, g, d, k, os⟩ := by
  obtain ⟨nm, q, N, bs, bm, hd, sn, sub, ab, col, dd, k0, k1, k2, k3, k5, hC, hr⟩ := O.ob
  obtain ⟨nB, iX, bmX, F, hB⟩ := X.nw
  have z1 : (Value.ref C :: bm).contains (.type nB) = true := by rw [List.contains_cons, refsT_ty nB hr, hB, Bool.or_true]
  have z2 : (Value.ref C :: bm).contains (.type "AttributeError") = false := by rw [List.contains_cons, refsT_ty _ hr, X.noA]; rfl
  have z3 : (Value.ref C :: bm).contains (.type "NameError") = false := by rw [List.contains_cons, refsT_ty _ hr, X.noN]; rfl
  have z0 := F.ends
  refine codeAny_builtinAt F.entry ?_; unfold Builtin.«BaseException.__new__»
  refine wpAt_bind ?_; show wpAt _ _ _ (stack >>= _) _ _ _
  refine wpAt_bind (wpAt_stack fun p below => wpAt_of_wpAny ?_)
  wp_walk
  refine wpAt_of_wpAny ?_
  rw [F.owner]
  repeat (first | with_reducible refine wpAny_madeHere_exc F.canon hC ?_ | with_reducible refine wpAny_loadPart_at hC ?_ | (with_reducible refine wpAny_isSubtype_exc hC ?_; first | rw [z1] | rw [z2] | rw [z3]) | wp_step)
  show R _ _
  rw [Heap.size_push]; exact hq
/-- type.__call__ on such a class: __new__, then the own __init__ -/
theorem xtype {fI : Addr} {Q : Fin → Shared → Prop} (X : XBase t newId initId) (O : XOb h t newId C) (hz : xs.length ≤ sizeLine)
    (hi : W.Looks (model prog w) h (typeLookup (.ref C) "__init__") (some (.ref fI))) (hb : ∀ self, W.Looks (model prog w) h (bindSpecial (.ref fI) self) (.ref fI, [self]))
    (hq : codeAny (model prog w) A (.call (.ref fI) ⟨.ref (h.objs.size + 1) :: xs, []⟩) (fun r s' => match r with | .ok (.ret v) => v = .none ∧ Q (.done (.ret (.ref (h.objs.size + 1)))) s' | .ok _ => False | .error e => E e s')
      ⟨(h.push (W.kdv_tup xs)).push (excO C h.objs.size), g, d, k, os⟩) : wpAny (model prog w) A (Builtin.«type.__call__» ⟨.ref C :: xs, []⟩) Q E ⟨h, g, d, k, os⟩ := by
  have O0 := O
  obtain ⟨nm, q, N, bs, bm, hd, sn, sub, ab, col, dd, k0, k1, k2, k3, k5, hC, hr⟩ := O.ob
  obtain ⟨nB, iX, bmX, F, hB⟩ := X.nw
  have z1 : (Value.ref C :: bm).contains (.type nB) = true := by rw [List.contains_cons, refsT_ty nB hr, hB, Bool.or_true]
  have z0 := F.noStar
  repeat (first | with_reducible refine wpAny_loadPart_at hC ?_ | with_reducible refine wpAny_madeBy_exc hC ?_ | wp_step)
  refine codeAny_call_builtin_code (Code.quiet_builtin _ F.quiet) (?_ : wpAny _ _ (checkBuiltinCall newId _) _ _ _)
  simp only [checkBuiltinCall, F.newKind, F.newSplit, F.newRow]
  repeat (first | refine wpAny_loadPart_at hC ?_ | (refine wpAny_isSubtype_exc hC ?_; rw [z1]) | refine wpAny_staticBase_exc hC ?_ | refine wpAny_madeBy_exc hC ?_ | simp only [bne_self_eq_false, Bool.false_eq_true, if_false] | wp_step)
  refine xnew X O0 hz (?_ : wpAny _ _ _ _ _ _)
  have kk : ∀ b o, h.get? b = some o → ((h.push (W.kdv_tup xs)).push (excO C h.objs.size)).get? b = some o := fun b o e => Heap.get?_push_of_some _ (Heap.get?_push_of_some _ e)
  have y1 := kk _ _ hC
  have y2 : ((h.push (W.kdv_tup xs)).push (excO C h.objs.size)).get? (h.objs.size + 1) = some (excO C h.objs.size) := by heap_get
  have y3 : (Value.ref C :: bm).contains (.ref C) = true := by simp
  have y4 := hi.keeps kk
  have y5 := (hb (.ref (h.objs.size + 1))).keeps kk
  unfold isInstance
  repeat (first | with_reducible refine wpAny_loadPart_at y2 ?_ | (with_reducible refine wpAny_isSubtype_exc y1 ?_; rw [y3]) | wp_step)
  show wpAny _ _ (typeLookup (.ref C) _) _ _ _
  refine y4.at (wpAny_holding (wpAny_bind (y5.at (wpAny_bind (wpAny_call (codeAny_mono hq fun r s' z => ?_))))))
  rcases r with e | (v | _ | _ | _) <;> first | exact z | exact z.elim | skip
  obtain ⟨rfl, z⟩ := z
  first | exact wpAny_pure (wpAny_pure z) | (wp_walk; exact z)
/-- C(..) -/
theorem xcall {fI : Addr} (X : XBase t newId initId) (O : XOb h t newId C) (hz : xs.length ≤ sizeLine)
    (hi : W.Looks (model prog w) h (typeLookup (.ref C) "__init__") (some (.ref fI))) (hb : ∀ self, W.Looks (model prog w) h (bindSpecial (.ref fI) self) (.ref fI, [self]))
    (hq : codeAny (model prog w) (A.under (.builtin "type.__call__" ⟨.ref C :: xs, []⟩)) (.call (.ref fI) ⟨.ref (h.objs.size + 1) :: xs, []⟩) (W.InitBack (h.objs.size + 1) R) ⟨(h.push (W.kdv_tup xs)).push (excO C h.objs.size), g, d, k, os⟩) :
    codeAny (model prog w) A (.call (.ref C) ⟨xs, []⟩) R ⟨h, g, d, k, os⟩ := by
  have O0 := O
  obtain ⟨nm, q, N, bs, bm, hd, sn, sub, ab, col, dd, k0, k1, k2, k3, k5, hC, hr⟩ := O.ob
  have f1 := tc_lookup
  have f2 := tc_bind (.ref C)
  have f3 : (⟨h, g, d, k, os⟩ : Shared).TypeIs (.ref C) "type" := ⟨_, hC, rfl⟩
  refine codeAny_of_tree (?_ : wpAny _ _ (callAny (.ref C) _) _ _ _)
  repeat (any_goals (first | assumption | with_reducible refine wpAny_loadPart_at hC ?_ | wp_step))
  refine ⟨rfl, codeAny_call_builtin_at (Code.quiet_builtin _ (by decide +kernel)) entry_typeCall (wpAny_check_type_call_sub hC (xtype X O0 hz hi hb (codeAny_mono hq fun r s' z => ?_)))⟩
  rcases r with e | (v | _ | _ | _) <;> exact z
/-- the base's __init__(e, ..): the args are laid anew -/
theorem xinit {e t0 : Addr} (X : XBase t newId initId) (O : XOb h t newId C) (he : h.get? e = some (excO C t0)) (hz : xs.length ≤ sizeLine)
    (hq : ∀ h' t1, (∀ b o, b ≠ e → h.get? b = some o → h'.get? b = some o) → h'.get? e = some (excO C t1) → R (.ok (.ret .none)) ⟨h', g, d, k, os⟩) : codeAny (model prog w) A (.call (.builtin initId) ⟨.ref e :: xs, []⟩) R ⟨h, g, d, k, os⟩ := by
  obtain ⟨nm, q, N, bs, bm, hd, sn, sub, ab, col, dd, k0, k1, k2, k3, k5, hC, hr⟩ := O.ob
  obtain ⟨iB, F, hB⟩ := X.ini
  have z1 : (Value.ref C :: bm).contains (.type iB) = true := by rw [List.contains_cons, refsT_ty iB hr, hB, Bool.or_true]
  have z0 := F.star
  refine codeAny_call_builtin F.init.plain F.entry (?_ : wpAny _ _ (checkBuiltinCall initId _) _ _ _)
  simp only [checkBuiltinCall, F.kind, F.split, F.row]
  repeat (first | with_reducible refine wpAny_loadPart_at he ?_ | with_reducible refine wpAny_loadPart_at hC ?_ | (with_reducible refine wpAny_isSubtype_exc hC ?_; rw [z1]) | wp_step)
  refine wpAny_onRaise ?_
  rw [show ∀ (a b : String) (n : Nat), Bind.check ⟨.positional, "*", iB, .self, [⟨"args", .varPos, false⟩]⟩ a b n (List.map (fun x => x.fst) ({ pos := Value.ref e :: xs } : Args).kw) = pure () from fun a b n => check_star_args _ _ _ _ _ _]
  refine wpAny_pure ?_
  wp_walk
  refine hq _ h.objs.size (fun b o n z => ?_) ?_
  · rw [Heap.get?_update_other _ _ (Ne.symm n)]; exact Heap.get?_push_of_some _ z
  · rw [Heap.get?_update_self _ (Heap.get?_push_of_some _ he) rfl]; rfl
end
/-! ## self.f = v -/
section
variable {prog : Program} {w : World} {A : Around} {E : Value → Shared → Prop} {R : Result → Shared → Prop} {hp : Heap} {g : Array GenState} {d : Drawn} {k : Nat} {os : OsState} {K : W.Frag} {name : Str} {tk : Tok} {v : Value} {x C : Addr} {fv : Array Value} {cd : ClassData} {t : List Value} {newId initId : String}
theorem mro_obj (X : XBase t newId initId) (hm : refsT t cd.mro = true) : cd.mro.isEmpty = false ∧ cd.mro.contains (.type "object") = true := by
  have z := refsT_ty "object" hm
  rw [X.obj] at z
  refine ⟨?_, z⟩
  cases h : cd.mro with
  | nil => rw [h] at z; cases z
  | cons _ _ => rfl
theorem xstore_new (X : XBase t newId initId) (KI : K.In hp) (hx : hp.get? x = some { cls := .ref C, data := .fields fv }) (hcd : W.clsIn K C = some cd) (hm : refsT t cd.mro = true) (hh : cd.hasDict = true) (ha : W.findIn K (.ref C) name = some none)
    (hq : ∀ h' tk' dx, (∀ b o, b ≠ x → hp.get? b = some o → h'.get? b = some o) → hp.objs.size ≤ dx → dx ≠ x → h'.get? x = some { cls := .ref C, dict := some dx, data := .fields fv } → h'.Ns1 dx (fun y => if y = name then some v else none) → R (.ok (.ret .none)) ⟨h', g, d, tk', os⟩) :
    codeAny (model prog w) A (.call (.builtin "object.__setattr__") ⟨[.ref x, .str name tk, v], []⟩) R ⟨hp, g, d, k, os⟩ := by
  have I : W.InstAt hp x { cls := .ref C, data := .fields fv } C none := ⟨hx, rfl, rfl, trivial⟩
  obtain ⟨m1, m2⟩ := mro_obj X hm
  have m3 : x ≠ hp.objs.size := Nat.ne_of_lt (Heap.lt_size hx)
  have m4 : W.Looks (model prog w) hp (isInstance (.ref x) (.type "object")) true := I.type.andThen (W.looks_mroIn KI (by unfold W.mroIn; rw [hcd, Option.bind_some, if_neg (by rw [m1]; decide), m2]))
  refine codeAny_call_builtin F.store_object.slot.plain F.store_object.entry (@W.check_slot (model prog w) _ _ ⟨hp, g, d, k, os⟩ "object.__setattr__" "object" "__setattr__" (.ref x) [.str name tk, v] [] _ F.store_object.kind F.store_object.split m4 (F.store_object.args (.ref x) (.str name tk) v) ?_)
  have n1 : W.Looks (model prog w) hp (mroOf (.ref C)) cd.mro := (W.looks_clsIn KI hcd).andThen .now
  have n2 : W.Looks (model prog w) hp (storeTaker? none) none := .now
  have n3 : W.Looks (model prog w) hp (classData C) cd := W.looks_clsIn KI hcd
  rw [W.osa_eq, refuse_eq]; refine wpAny_bind (wpAny_bind (I.type.at (wpAny_bind (n1.at ?_))))
  rw [refsT_pass X.pass _ hm]; refine wpAny_pure (wpAny_bind (I.type.at (wpAny_bind ((W.looks_findIn KI ha).at (wpAny_bind (n2.at (?_ : wpAny _ _ (storeInOwnDict (.ref x) (.ref C) (.str name tk) name v false) _ _ _)))))))
  obtain ⟨nm, bs, mro, ns, qn, hd, sn, sb, ab, col, del⟩ := cd
  dsimp only at hh; subst hh
  unfold storeInOwnDict ownDictForStores
  repeat (first | with_reducible refine store_in_new ?_ ?_ | with_reducible refine wpAny_loadPart_at hx ?_ | with_reducible refine n3.at ?_ | wp_step)
  · exact ⟨_, #[], _, (Heap.get?_update_ne _ _ _ _ m3.symm).trans (Heap.get?_push_at rfl rfl), rfl, fun e he => absurd he (by simp), fun _ => rfl⟩
  · intro h' tk' hn' hs
    have hx1 : (hp.push { cls := .type "dict", data := .dict #[] }).get? x = some { cls := .ref C, data := .fields fv } := Heap.get?_push_of_some _ hx
    exact hq h' tk' hp.objs.size (fun b o hb ho => (hs.2 b (Nat.ne_of_lt (Heap.lt_size ho))).trans ((Heap.get?_update_ne _ _ _ _ hb).trans (Heap.get?_push_of_some _ ho))) (Nat.le_refl _) m3.symm ((hs.2 x m3).trans (Heap.get?_update_self _ hx1 rfl)) hn'
theorem xstore_old {dx : Addr} {m0 : Str → Option Value} {nl : List Str} (X : XBase t newId initId) (KI : K.In hp) (hx : hp.get? x = some { cls := .ref C, dict := some dx, data := .fields fv }) (hns : hp.Ns1 dx m0) (hw : Within m0 nl) (hz : nl.length ≤ 1000) (hcd : W.clsIn K C = some cd) (hm : refsT t cd.mro = true) (hh : cd.hasDict = true)
    (ha : W.findIn K (.ref C) name = some none)
    (hq : ∀ h' tk', (∀ b o, b ≠ dx → hp.get? b = some o → h'.get? b = some o) → h'.Ns1 dx (fun y => if y = name then some v else m0 y) → R (.ok (.ret .none)) ⟨h', g, d, tk', os⟩) :
    codeAny (model prog w) A (.call (.builtin "object.__setattr__") ⟨[.ref x, .str name tk, v], []⟩) R ⟨hp, g, d, k, os⟩ := by
  obtain ⟨oD, esD, epD, hoD, hdD, _⟩ := hns.count hw
  have I : W.InstAt hp x { cls := .ref C, dict := some dx, data := .fields fv } C (some oD) := ⟨hx, rfl, rfl, hoD⟩
  obtain ⟨m1, m2⟩ := mro_obj X hm
  have m4 : W.Looks (model prog w) hp (isInstance (.ref x) (.type "object")) true := I.type.andThen (W.looks_mroIn KI (by unfold W.mroIn; rw [hcd, Option.bind_some, if_neg (by rw [m1]; decide), m2]))
  refine codeAny_call_builtin F.store_object.slot.plain F.store_object.entry (@W.check_slot (model prog w) _ _ ⟨hp, g, d, k, os⟩ "object.__setattr__" "object" "__setattr__" (.ref x) [.str name tk, v] [] _ F.store_object.kind F.store_object.split m4 (F.store_object.args (.ref x) (.str name tk) v) ?_)
  have n1 : W.Looks (model prog w) hp (mroOf (.ref C)) cd.mro := (W.looks_clsIn KI hcd).andThen .now
  have n2 : W.Looks (model prog w) hp (storeTaker? none) none := .now
  have n3 : W.Looks (model prog w) hp (classData C) cd := W.looks_clsIn KI hcd
  rw [W.osa_eq, refuse_eq]; refine wpAny_bind (wpAny_bind (I.type.at (wpAny_bind (n1.at ?_))))
  rw [refsT_pass X.pass _ hm]; refine wpAny_pure (wpAny_bind (I.type.at (wpAny_bind ((W.looks_findIn KI ha).at (wpAny_bind (n2.at (?_ : wpAny _ _ (storeInOwnDict (.ref x) (.ref C) (.str name tk) name v false) _ _ _)))))))
  obtain ⟨nm, bs, mro, ns, qn, hd, sn, sb, ab, col, del⟩ := cd
  dsimp only at hh; subst hh
  unfold storeInOwnDict ownDictForStores
  repeat (first | with_reducible refine OEX.store_in_old hns hw hz ?_ | with_reducible refine wpAny_loadPart_at hx ?_ | with_reducible refine n3.at ?_ | wp_step)
  exact fun h' tk' hn' hs => hq h' tk' (fun b o hb ho => (hs.2 b hb).trans ho) hn'
end
end Px

namespace Pd
open PySem PySem.Spec L2
open PyProof.Rows hiding St
variable [Codes]
/-! # own classes of errors, as values -/
/-- the class c at Ca, over t -/
structure XCls (K : PySem.W.Frag) (mg : Str → Option Value) (t : List Value) (newId initId : String) (c : Str) (Ca : Addr) : Prop where
  cls : ∃ nm q N bs bm sn sub ab col dd k0 k1 k2 k3 k5, K.lookup Ca = some (excClassObj nm q Ca N bs bm true sn sub ab col dd k0 k1 k2 k3 k5 newId) ∧ Px.refsT t bm = true
  mg : mg c = some (.ref Ca)
  kp : PySem.W.keepIn K (.ref Ca) = true
  sa : PySem.W.findIn K (.ref Ca) "__setattr__" = some (some (.builtin "object.__setattr__"))
  ga : PySem.W.findIn K (.ref Ca) "__getattribute__" = some (some (.builtin "BaseException.__getattribute__"))
  gg : PySem.W.findIn K (.ref Ca) "__getattr__" = some none
  ex : PySem.W.subIn K (.ref Ca) (.type "BaseException") = some true
  ty : PySem.W.typeIn K (.ref Ca) = some (.type "type")
  ca : PySem.W.findIn K (.ref Ca) "__class__" = some (some (.builtin "object.__class__"))
  cg : PySem.W.specialIn K (.builtin "object.__class__") "__get__" = some (some (.builtin "getset_descriptor.__get__"))
  ct : PySem.W.takesIn K (.builtin "object.__class__") = some true
  ob : PySem.W.mroIn K Ca (.type "object") = some true
section
variable {K : PySem.W.Frag} {mg : Str → Option Value} {t : List Value} {newId initId : String} {c : Str} {Ca : Addr}
theorem XCls.xob (x : XCls K mg t newId initId c Ca) {h : Heap} (X : K.In h) : Px.XOb h t newId Ca := by
  obtain ⟨nm, q, N, bs, bm, sn, sub, ab, col, dd, k0, k1, k2, k3, k5, e, r⟩ := x.cls
  exact ⟨nm, q, N, bs, bm, true, sn, sub, ab, col, dd, k0, k1, k2, k3, k5, X _ _ e, r⟩
theorem XCls.cd (x : XCls K mg t newId initId c Ca) : ∃ cd, PySem.W.clsIn K Ca = some cd ∧ Px.refsT t cd.mro = true ∧ cd.hasDict = true := by
  obtain ⟨nm, q, N, bs, bm, sn, sub, ab, col, dd, k0, k1, k2, k3, k5, e, r⟩ := x.cls
  exact ⟨{ name := nm, bases := bs, mro := .ref Ca :: bm, ns := N, qualname := q, hasDict := true, slotNames := sn, subclasses := sub, abstract := ab, collection := col, hasDel := false }, by unfold PySem.W.clsIn; rw [e] <;> rfl, r, rfl⟩
theorem XCls.hd (x : XCls K mg t newId initId c Ca) : PySem.W.hasDictIn K Ca = true := by
  obtain ⟨cd, h, _, d⟩ := x.cd
  unfold PySem.W.hasDictIn; rw [h]; exact d
end
/-- B.__init__ read of the class B -/
structure XIni (K : PySem.W.Frag) (mg : Str → Option Value) (initId : String) (b : Str) (Ba : Addr) : Prop where
  mg : mg b = some (.ref Ba)
  sp : PySem.W.specialIn K (.ref Ba) "__getattribute__" = some (some (.builtin "type.__getattribute__"))
  rd : PySem.W.readsIn K Ba (.type "type") = true
  fi : PySem.W.findCls K (.ref Ba) (.type "type") "__init__" = some (.val (.builtin initId))
  hi : PySem.W.handedIn (.builtin initId) = true
section
variable {X : Cx} {pins : List (Addr × Obj)} {σ : St} {H : Hp} {s : Shared} {a Ca dx : Addr} {f : Str} {y : V} {u : Value} {fs : List (Str × V)} {t : List Value} {newId initId : String} {c : Str}
theorem x_init {us : List Value} {Q : Value → Shared → Prop} {E : Value → Shared → Prop} {A : Around} (B : Px.XBase t newId initId) (T : XCls X.K X.mg t newId initId c Ca) (I : Inv X pins σ H s) (e : H a = some (exo a Ca none)) (hl : us.length ≤ sizeLine) (h : ∀ s', Inv X pins σ H s' → Q .none s') :
    wpAny (model X.prog X.w) A (call (.builtin initId) (.ref a :: us)) Q E s := by
  obtain ⟨t1, ho⟩ := exo_at I.hok e
  obtain ⟨hp, g, d, tk, os⟩ := s
  refine wpAny_call (Px.xinit B (T.xob I.kIn) ho hl fun h' t2 k hx => ?_)
  have J := I.write (t' := tk) (x := a) (e := a) (o := exo a Ca none) (by rw [e]; exact True.intro) (.inl rfl) k ⟨_, hx⟩ (exo_ok hx)
  have eu : upd H a (exo a Ca none) = H := by
    funext b
    by_cases hb : b = a
    · rw [hb, upd_same, e]
    · rw [upd_ne hb]
  rw [eu] at J
  exact h _ J
theorem x_put1 {Q : Unit → Shared → Prop} {E : Value → Shared → Prop} {A : Around} (B : Px.XBase t newId initId) (T : XCls X.K X.mg t newId initId c Ca) (I : Inv X pins σ H s) (e : H a = some (exo a Ca none)) (hno : PySem.W.findIn X.K (.ref Ca) f = some none) (ry : RelV y u)
    (h : ∀ dx s', H dx = none → dx ≠ a → Inv X pins σ (upd (upd H dx (exd dx [(f, y)])) a (exo a Ca (some dx))) s' → Q () s') : wpAny (model X.prog X.w) A (setAttr (.ref a) f u) Q E s := by
  obtain ⟨cd, h1, h2, h3⟩ := T.cd
  obtain ⟨t1, ho⟩ := exo_at I.hok e
  obtain ⟨hp, g, d, tk, os⟩ := s
  refine PySem.W.set_plain I.kIn (ox := { cls := .ref Ca, dict := none, data := .fields #[.ref t1, .none, .none, .none, .bool false, .none] }) (od := none) ⟨ho, rfl, rfl, trivial⟩ T.sa ?_
  refine Px.xstore_new B I.kIn ho h1 h2 h3 hno fun h' tk' dx k dn dne hx hn => ?_
  have hnd : H dx = none := I.hok.fresh dn
  have nd : ∀ {b : Addr} {o : Obj}, hp.get? b = some o → b ≠ dx := fun {b o} q => Nat.ne_of_lt (Nat.lt_of_lt_of_le (Heap.lt_size q) dn)
  have na : ∀ {b : Addr}, H b = none → b ≠ a := fun {b} n z => by rw [z, e] at n; cases n
  have U : Un X.fs [] H (upd (upd H dx (exd dx [(f, y)])) a (exo a Ca (some dx))) hp h' := {
    keep := fun b o q n _ _ => k b o (na n) q
    slot := fun b o q n _ _ => ⟨o.slots, k b o (na n) q⟩
    free := fun b o q n _ => by rw [upd_ne (na n), upd_ne (nd q)]; exact n
    there := fun b o q _ => by
      by_cases hb : b = a
      · exact ⟨_, by rw [hb]; exact hx⟩
      · exact ⟨o, k b o hb q⟩
    tups := fun b xs q => by rw [upd_ne (at_ne e q exo_tup), upd_ne (ne_of_none q hnd)]; exact q
    frzs := fun b o v q => by rw [upd_ne (at_ne e q exo_frz), upd_ne (ne_of_none q hnd)]; exact q
    tbls := fun b ps q => ⟨#[], by rw [upd_ne (at_ne e q exo_tbl), upd_ne (ne_of_none q hnd), q]; simp⟩ }
  refine h dx _ hnd dne (I.un (t' := tk') U fun b o q => ?_)
  by_cases hb : b = a
  · subst hb
    rw [upd_same] at q
    cases q; exact exo_ok hx
  · rw [upd_ne hb] at q
    by_cases hd : b = dx
    · subst hd
      rw [upd_same] at q
      cases q; exact exd_ok hn (relO_put (fs := []) ry fun g => True.intro)
    · rw [upd_ne hd] at q
      refine (I.hok b o q).stay (fun c v hc z => k c v ?_ z) (fun c hc => ?_) fun c xs hc => ?_
      · rcases hc with hc | hc
        · rw [hc]; exact hb
        · exact at_ne e hc exo_own
      · rw [upd_ne (at_ne e hc exo_own), upd_ne (ne_of_none hc hnd)]; exact hc
      · rw [upd_ne (at_ne e hc exo_tup), upd_ne (ne_of_none hc hnd)]; exact hc
theorem x_put2 {Q : Unit → Shared → Prop} {E : Value → Shared → Prop} {A : Around} (B : Px.XBase t newId initId) (T : XCls X.K X.mg t newId initId c Ca) (I : Inv X pins σ H s) (e : H a = some (exo a Ca (some dx))) (ed : H dx = some (exd dx fs)) (hl : fs.length ≤ 900) (hno : PySem.W.findIn X.K (.ref Ca) f = some none) (ry : RelV y u)
    (h : ∀ s', Inv X pins σ (upd H dx (exd dx ((f, y) :: fs))) s' → Q () s') : wpAny (model X.prog X.w) A (setAttr (.ref a) f u) Q E s := by
  obtain ⟨cd, h1, h2, h3⟩ := T.cd
  obtain ⟨t1, ho⟩ := exo_at I.hok e
  obtain ⟨mA, hns, rel⟩ := exd_at I.hok ed
  have hw := within_of rel
  obtain ⟨hp, g, d, tk, os⟩ := s
  obtain ⟨oD, _, _, hoD, _, _⟩ := hns.count hw
  refine PySem.W.set_plain I.kIn (ox := { cls := .ref Ca, dict := some dx, data := .fields #[.ref t1, .none, .none, .none, .bool false, .none] }) (od := some oD) ⟨ho, rfl, rfl, hoD⟩ T.sa ?_
  refine Px.xstore_old B I.kIn ho hns hw (by rw [List.length_map]; omega) h1 h2 h3 hno fun h' tk' k hn => ?_
  have hd : ∃ o, h'.get? dx = some o := by
    obtain ⟨o, _, _, e', _⟩ := hn
    exact ⟨o, e'⟩
  exact h _ (I.write (t' := tk') (x := dx) (e := dx) (o := exd dx ((f, y) :: fs)) (by rw [ed]; exact True.intro) (.inl rfl) k hd (exd_ok hn (relO_put ry rel)))
end
/-! ## the bodies of their __init__ -/
/-- B.__init__(self, ..) -/
def tXini (K : PySem.W.Frag) (mg : Str → Option Value) (t : List Value) (newId initId : String) (ta : TA) : TE := fun σ H Q => ta σ H fun vs H1 => ∃ (a Ca : Addr) (c : Str) (ws : List V), vs = .ref a :: ws ∧ ws.length ≤ 1000 ∧ XCls K mg t newId initId c Ca ∧ H1 a = some (exo a Ca none) ∧ Q .non H1
/-- self.f = e -/
def tXput (K : PySem.W.Frag) (mg : Str → Option Value) (t : List Value) (newId initId : String) (f : Str) (to te : TE) : TS := fun D σ H => te σ H fun y H1 => to σ H1 fun x H2 => ∃ (a Ca : Addr) (c : Str), x = .ref a ∧ XCls K mg t newId initId c Ca ∧ PySem.W.findIn K (.ref Ca) f = some none ∧
  ((H2 a = some (exo a Ca none) ∧ ∀ dx, H2 dx = none → dx ≠ a → D.nx σ (upd (upd H2 dx (exd dx [(f, y)])) a (exo a Ca (some dx)))) ∨
    ∃ (dx : Addr) (fs : List (Str × V)), H2 a = some (exo a Ca (some dx)) ∧ H2 dx = some (exd dx fs) ∧ fs.length ≤ 900 ∧ D.nx σ (upd H2 dx (exd dx ((f, y) :: fs))))
section
variable {X : Cx} {o e : Expr} {es : List Expr} {to te : TE} {ta : TA} {f b : Str} {p p' p1 p2 pos : Pos} {t : List Value} {newId initId : String} {Ba : Addr}
theorem pe_xini {pl : Sem Bool} (B : Px.XBase t newId initId) (T : XIni X.K X.mg initId b Ba) (hg : Gl X b) (ha : PA X (e :: es) ta) (hdb : (b == ("__debug__" : Str)) = false := by decide)
    (hc : eval (.Call (.Attribute (.Name b p1) "__init__" p2) (e :: es) [] pos) X.env = (do
      let ov ← eval (.Name b p1) X.env
      standAt p2.atName
      let (f, first) ← holding [ov] (getMethod ov "__init__" pl)
      callWith pos f first (backTo pos (starEach (e :: es) X.env)) (backToKw pos (keywordEach [] X.env))) := by rfl)
    (he : starEach (e :: es) X.env = (false, eval e X.env) :: starEach es X.env := by rfl) (hpl : (backTo pos (starEach es X.env)).any (·.1) = false := by rfl) :
    PE X (.Call (.Attribute (.Name b p1) "__init__" p2) (e :: es) [] pos) (tXini X.K X.mg t newId initId ta) := by
  refine ⟨fun pins s σ H Q I h => ?_⟩
  refine PySem.W.methodCall_KW (ld_glob I hg T.mg ?_ hdb) hc
  refine PySem.W.method_cls I.kIn T.sp (PySem.W.cls_value I.kIn T.rd T.fi T.hi ?_)
  show wpAny _ _ (callWith pos (Value.builtin initId) [] (backTo pos (starEach (e :: es) X.env)) []) _ _ _
  refine PyProof.Rows.callWith_method1 (thn (ha.run pos pins _ σ H _ (I.tok _) h) fun us s1 ⟨vs, H1, I1, r1, a, Ca, c, ws, ev, hl, C, ea, q⟩ => ?_) he hpl
  subst ev
  cases r1 with
  | @cons _ u0 _ ur ra rw' =>
    obtain rfl : u0 = Value.ref a := ra
    exact x_init B C I1 ea (by rw [← Paired.length rw', sizeLine_eq]; omega) fun s' J => ⟨.non, H1, J, rfl, q⟩
theorem ps_xput (B : Px.XBase t newId initId) (ho : PE X o to) (he : PE X e te) (hs : swapsWith e (some (.Attribute o f p')) pos.line X.env = pure false := by rfl) : PS X (.Assign [.Attribute o f p'] e pos) (tXput X.K X.mg t newId initId f to te) := by
  refine ⟨fun pins s σ H D I h => ?_⟩
  refine plainObj_wpAny_Assign_Attribute (thn (he.run pins s σ H _ I h) fun v s1 ⟨y, H1, I1, r1, q1⟩ => thn (ho.run pins s1 σ H1 _ I1 q1) fun u s2 ⟨x, H2, I2, r2, a, Ca, c, ex, T, hno, q⟩ => ?_) hs
  subst ex
  obtain rfl : u = Value.ref a := r2
  rcases q with ⟨ea, q⟩ | ⟨dx, fs, ea, ed, hl, q⟩
  · exact x_put1 B T I2 ea hno r1 fun dx s' n ne J => ⟨σ, _, J, q dx n ne⟩
  · exact x_put2 B T I2 ea ed hl hno r1 fun s' J => ⟨σ, _, J, q⟩
end
end Pd

namespace Pd
open PySem PySem.Spec L2
open PyProof.Rows hiding St
variable [Codes]
/-! ## what an __init__ promises -/
def spIn (Ca : Addr) (fs : List Str) : Sp := fun vs H Q E => ∃ (a : Addr) (ys : List V), vs = .ref a :: ys ∧ ys.length = fs.length ∧ H a = some (exo a Ca none) ∧
  ∀ (dx : Addr) (gs : List (Str × V)) (H' : Hp), H dx = none → dx ≠ a → H' a = some (exo a Ca (some dx)) → H' dx = some (exd dx gs) → (∀ g, gs.lookup g = (fs.zip ys).lookup g) → (∀ b, b ≠ a → b ≠ dx → H' b = H b) → Q .non H'
abbrev tI1 (K : PySem.W.Frag) (mg : Str → Option Value) (t : List Value) (newId initId : String) (msg f : Str) : TS :=
  tSeq (tDrop (tXini K mg t newId initId (tCons (tVar 0) (tCons (tC (.str msg)) tNil)))) (tXput K mg t newId initId f (tVar 0) (tVar 1))
abbrev tI2 (K : PySem.W.Frag) (mg : Str → Option Value) (t : List Value) (newId initId : String) (msg f f' : Str) : TS :=
  tSeq (tDrop (tXini K mg t newId initId (tCons (tVar 0) (tCons (tC (.str msg)) tNil)))) (tSeq (tXput K mg t newId initId f (tVar 0) (tVar 1)) (tXput K mg t newId initId f' (tVar 0) (tVar 2)))
section
variable {P : Program} {w : World} {K : PySem.W.Frag} {mg : Str → Option Value} {base : Heap} {t : List Value} {newId initId : String} {c : Str} {Ca : Addr} {qual : Str} {st : Stmt} {f : Addr} {fd : FuncData} {p0 p1 p2 g1 g2 msg : Str} {k : Nat}
theorem fn_init1 (T : XCls K mg t newId initId c Ca) (hno : PySem.W.findIn K (.ref Ca) g1 = some none) (F : Fun K "__init__" qual st f fd) (S : FnScope [p0, p1] [p0, p1] (defScope st))
    (hb : ∀ (cdv : Value) (A : Around) (outer : List Env) (s : Shared) (H : Hp) (E : XK), PSs (cxOf (L2.CX P w) P w K mg base [p0, p1] qual (defScope st) f cdv A outer s H E) (defBody st) (tI1 K mg t newId initId msg g1)) :
    FnG P w K mg base (k + 1) f fd [p0, p1] (spIn Ca [g1]) := by
  obtain ⟨oc, od, kV, doc, pm, an, cdv, ct, osl, rfl, lk, hcd⟩ := F.ex
  refine fnG_of lk hcd S (fun vs H Q E h => ?_) fun A outer s H vs Q E hr h => ⟨_, hb cdv A outer s H E, ?_⟩
  · obtain ⟨a, ys, rfl, hl, _⟩ := h
    rw [List.length_cons, hl]; rfl
  obtain ⟨a, ys, rfl, hl, ha, q⟩ := h
  match ys, hl with
  | [y], _ =>
    refine ⟨_, rfl, a, Ca, c, _, rfl, by show 1 ≤ 1000; decide, T, ha, ?_⟩
    refine ⟨_, rfl, _, rfl, a, Ca, c, rfl, T, hno, .inl ⟨ha, fun dx hd hne => ?_⟩⟩
    refine q dx [(g1, y)] _ hd hne upd_same ?_ (fun g => rfl) fun b h1 h2 => ?_
    · rw [upd_ne hne, upd_same]
    · rw [upd_ne h1, upd_ne h2]
theorem fn_init2 (T : XCls K mg t newId initId c Ca) (hno : PySem.W.findIn K (.ref Ca) g1 = some none) (hno2 : PySem.W.findIn K (.ref Ca) g2 = some none) (hne : (g1 == g2) = false) (F : Fun K "__init__" qual st f fd) (S : FnScope [p0, p1, p2] [p0, p1, p2] (defScope st))
    (hb : ∀ (cdv : Value) (A : Around) (outer : List Env) (s : Shared) (H : Hp) (E : XK), PSs (cxOf (L2.CX P w) P w K mg base [p0, p1, p2] qual (defScope st) f cdv A outer s H E) (defBody st) (tI2 K mg t newId initId msg g1 g2)) :
    FnG P w K mg base (k + 1) f fd [p0, p1, p2] (spIn Ca [g1, g2]) := by
  obtain ⟨oc, od, kV, doc, pm, an, cdv, ct, osl, rfl, lk, hcd⟩ := F.ex
  refine fnG_of lk hcd S (fun vs H Q E h => ?_) fun A outer s H vs Q E hr h => ⟨_, hb cdv A outer s H E, ?_⟩
  · obtain ⟨a, ys, rfl, hl, _⟩ := h
    rw [List.length_cons, hl]; rfl
  obtain ⟨a, ys, rfl, hl, ha, q⟩ := h
  match ys, hl with
  | [y, z], _ =>
    refine ⟨_, rfl, a, Ca, c, _, rfl, by show 1 ≤ 1000; decide, T, ha, ?_⟩
    refine ⟨_, rfl, _, rfl, a, Ca, c, rfl, T, hno, .inl ⟨ha, fun dx hd hnd => ?_⟩⟩
    refine ⟨_, rfl, _, rfl, a, Ca, c, rfl, T, hno2, .inr ⟨dx, [(g1, y)], upd_same, ?_, by show 1 ≤ 900; decide, ?_⟩⟩
    · rw [upd_ne hnd, upd_same]
    refine q dx [(g2, z), (g1, y)] _ hd hnd ?_ upd_same (fun g => ?_) fun b h1 h2 => ?_
    · rw [upd_ne (Ne.symm hnd), upd_same]
    · show List.lookup g [(g2, z), (g1, y)] = List.lookup g [(g1, y), (g2, z)]
      cases e1 : (g == g1) with
      | true =>
        have e2 : g = g1 := by simpa using e1
        have e3 : (g == g2) = false := by rw [e2]; exact hne
        simp only [List.lookup, e1, e3]
      | false => simp only [List.lookup, e1]
    · simp only [upd_ne h1, upd_ne h2]
end
/-! ## C(e, ..) as a value -/
def exF (oe : Obj) : HO := .frz oe (.ext fun _ => True)
def tMkx (Ca : Addr) (fs : List Str) (ta : TA) : TE := fun σ H Q => ta σ H fun vs H1 => vs.length = fs.length ∧ fs.length ≤ 1000 ∧ ∀ (a dx : Addr) (oe : Obj), H1 a = none → H1 dx = none → a ≠ dx → oe.cls = .ref Ca → oe.dict = some dx → (∃ vs, oe.data = .fields vs) →
  Q (.ref a) (upd (upd H1 dx (.xd (fs.zip vs))) a (exF oe))
section
variable {X : Cx} {e : Expr} {es : List Expr} {ta : TA} {x : Str} {p pos : Pos} {t : List Value} {newId initId : String} {Ca fI : Addr} {fd : FuncData} {ps fs : List Str} {k : Nat}
theorem pe_mkx (B : Px.XBase t newId initId) (T : XCls X.K X.mg t newId initId x Ca) (iC : PySem.W.findIn X.K (.ref Ca) "__init__" = some (some (.ref fI))) (tI : PySem.W.typeIn X.K (.ref fI) = some (.type "function"))
    (F1 : FnG X.prog X.w X.K X.mg X.base k fI fd ps (spIn Ca fs)) (hr : RG (k + 1) X.A) (hb : Binds X.K fd ps []) (hg : Gl X x) (ha : PA X (e :: es) ta)
    (hdb : (x == ("__debug__" : Str)) = false := by decide) (he : starEach (e :: es) X.env = (false, eval e X.env) :: starEach es X.env := by rfl) (hpl : (backTo pos (starEach es X.env)).any (·.1) = false := by rfl) :
    PE X (.Call (.Name x p) (e :: es) [] pos) (tMkx Ca fs ta) := by
  refine ⟨fun pins s σ H Q I h => ?_⟩
  refine wpAny_Call_Name_kw (ld_glob I hg T.mg ?_ hdb)
  refine PySem.W.callWith_K (h₀ := X.base) I.ok.mod.kin T.kp (thn (ha.run pos pins s σ H _ I h) fun us s1 ⟨vs, H1, I1, r1, hz, hz2, q1⟩ => ⟨I1.kIn, ?_⟩) he hpl
  show wpAny _ _ (call (.ref Ca) us) _ _ _
  obtain ⟨hp, g, dr, tk, os⟩ := s1
  have hsz : hp.objs.size ≤ hp.objs.size + 1 := Nat.le_succ _
  have hn : H1 (hp.objs.size + 1) = none := I1.hok.fresh hsz
  have kk : ∀ b o, hp.get? b = some o → ((hp.push (PySem.W.kdv_tup us)).push (PySem.HandSPX.excO Ca hp.objs.size)).get? b = some o := fun b o e => Heap.get?_push_of_some _ (Heap.get?_push_of_some _ e)
  have hget : ((hp.push (PySem.W.kdv_tup us)).push (PySem.HandSPX.excO Ca hp.objs.size)).get? (hp.objs.size + 1) = some (PySem.HandSPX.excO Ca hp.objs.size) := by heap_get
  have I2 : Inv X pins σ (upd H1 (hp.objs.size + 1) (exo (hp.objs.size + 1) Ca none)) ⟨(hp.push (PySem.W.kdv_tup us)).push (PySem.HandSPX.excO Ca hp.objs.size), g, dr, tk, os⟩ :=
    I1.laid (t' := tk) (a := hp.objs.size + 1) (o := exo (hp.objs.size + 1) Ca none) kk hsz (exo_ok hget)
  have hsp : spIn Ca fs (.ref (hp.objs.size + 1) :: vs) (upd H1 (hp.objs.size + 1) (exo (hp.objs.size + 1) Ca none))
      (fun v H2 => v = .non ∧ ∃ (d : Addr) (gs : List (Str × V)), H1 d = none ∧ d ≠ hp.objs.size + 1 ∧ H2 (hp.objs.size + 1) = some (exo (hp.objs.size + 1) Ca (some d)) ∧ H2 d = some (exd d gs) ∧ (∀ f, gs.lookup f = (fs.zip vs).lookup f) ∧ ∀ b, b ≠ hp.objs.size + 1 → b ≠ d → H2 b = H1 b) (fun _ _ _ => False) := by
    refine ⟨_, vs, rfl, hz, upd_same, fun dx gs H' h1 h2 h3 h4 h5 h6 => ⟨rfl, dx, gs, by rw [upd_ne h2] at h1; exact h1, h2, h3, h4, h5, fun b n1 n2 => ?_⟩⟩
    rw [h6 b n1 n2, upd_ne n1]
  have r2 : Vals (V.ref (hp.objs.size + 1) :: vs) (Value.ref (hp.objs.size + 1) :: us) := .cons rfl r1
  have hl : (Value.ref (hp.objs.size + 1) :: us).length = ps.length := r2.length.symm.trans (F1.len _ _ _ _ hsp)
  have hus : us.length ≤ sizeLine := by rw [← Paired.length r1, sizeLine_eq]; omega
  have bt := hb ⟨(hp.push (PySem.W.kdv_tup us)).push (PySem.HandSPX.excO Ca hp.objs.size), g, dr, tk, os⟩ (Value.ref (hp.objs.size + 1) :: us) I2.kIn (by rw [List.append_nil]; exact hl)
  rw [List.append_nil] at bt
  refine wpAny_call (Px.xcall B (T.xob I1.kIn) hus (PySem.W.looks_findIn I1.kIn iC) (fun self => PySem.W.bind_fn I1.kIn self tI)
    (codeAny_mono (F1.run _ X.stack _ _ ⟨Value.ref (hp.objs.size + 1) :: us, []⟩ (Value.ref (hp.objs.size + 1) :: us) _ _ (fun _ _ _ => False) ⟨hr.rm.make Ca us [], hr.gd⟩ (I2.env0.make Ca us []) bt r2 hsp) fun r s' hq' => ?_))
  rcases r with er | fl
  · obtain ⟨_, _, _, _, _, _, _, _, _, _, _, _, z⟩ := hq'
    exact z.elim
  cases fl with
  | next => exact False.elim hq'
  | brk => exact False.elim hq'
  | cont => exact False.elim hq'
  | ret u =>
    obtain ⟨v, H2, os2, bare2, un2, hok2, rv, ev, d, gs, d1, d2, ea, ed, hlk, hoth⟩ := hq'
    subst ev
    refine ⟨rv, ?_⟩
    obtain ⟨t0, hoe⟩ := exo_at hok2 ea
    obtain ⟨mA, hns, rel⟩ := exd_at hok2 ed
    have hq := q1 (hp.objs.size + 1) d _ hn d1 (Ne.symm d2) (show ({ cls := .ref Ca, dict := some d, data := .fields #[.ref t0, .none, .none, .none, .bool false, .none] } : Obj).cls = .ref Ca from rfl) rfl ⟨_, rfl⟩
    refine ⟨.ref (hp.objs.size + 1), _, ?_, rfl, hq⟩
    generalize hoed : ({ cls := .ref Ca, dict := some d, data := .fields #[.ref t0, .none, .none, .none, .bool false, .none] } : Obj) = oe at hoe hq ⊢
    generalize hH : upd (upd H1 d (.xd (fs.zip vs))) (hp.objs.size + 1) (exF oe) = H3 at hq ⊢
    have e3a : H3 (hp.objs.size + 1) = some (exF oe) := by rw [← hH, upd_same]
    have e3d : H3 d = some (.xd (fs.zip vs)) := by rw [← hH, upd_ne d2, upd_same]
    have e3 : ∀ b, b ≠ hp.objs.size + 1 → b ≠ d → H3 b = H2 b := fun b n1 n2 => by rw [← hH, upd_ne n1, upd_ne n2, hoth b n1 n2]
    have e31 : ∀ b, b ≠ hp.objs.size + 1 → b ≠ d → H3 b = H1 b := fun b n1 n2 => by rw [e3 b n1 n2, hoth b n1 n2]
    have ba : ∀ {b o}, hp.get? b = some o → b ≠ hp.objs.size + 1 := fun z => Nat.ne_of_lt (Nat.lt_of_lt_of_le (Heap.lt_size z) hsz)
    have up : ∀ {b}, b ≠ hp.objs.size + 1 → H1 b = none → upd H1 (hp.objs.size + 1) (exo (hp.objs.size + 1) Ca none) b = none := fun hb n => by rw [upd_ne hb]; exact n
    have nd : ∀ {b o}, hp.get? b = some o → H1 b = none → b ≠ d := fun {b o} z n e => by
      have y := un2.free b o (kk b o z) (up (ba z) n) (by simp)
      rw [e, ed] at y; cases y
    have U : Un (frs X.stack) [] H1 H3 hp s'.heap := {
      keep := fun b o z n hf hx => un2.keep b o (kk b o z) (up (ba z) n) hf hx
      slot := fun b o z n hf hx => un2.slot b o (kk b o z) (up (ba z) n) hf hx
      free := fun b o z n hx => by rw [e31 b (ba z) (nd z n)]; exact n
      there := fun b o z hx => un2.there b o (kk b o z) hx
      tups := fun b xs z => by rw [e31 b (ne_of_none z hn) (ne_of_none z d1)]; exact z
      frzs := fun b o v z => by rw [e31 b (ne_of_none z hn) (ne_of_none z d1)]; exact z
      tbls := fun b ps z => ⟨#[], by rw [e31 b (ne_of_none z hn) (ne_of_none z d1), z]; simp⟩ }
    have K3 : HOk X.prog X.w H3 s'.heap := fun b o z => by
      by_cases hba : b = hp.objs.size + 1
      · subst hba
        rw [e3a] at z; cases z
        exact ⟨hoe, trivial, ⟨_, hoe⟩, fun _ _ _ _ => trivial⟩
      · by_cases hbd : b = d
        · subst hbd
          rw [e3d] at z; cases z
          exact ⟨mA, hns, fun f => by rw [← hlk f]; exact rel f⟩
        · rw [e3 b hba hbd] at z
          refine (hok2 b o z).stay (fun _ _ _ y => y) (fun c hc => ?_) fun c xs hc => ?_
          · rw [e3 c (at_ne ea hc exo_own) (at_ne ed hc exd_own)]; exact hc
          · rw [e3 c (at_ne ea hc exo_tup) (at_ne ed hc exd_tup)]; exact hc
    exact I1.call' (ch := []) os2 U K3 bare2 (fun b z => absurd z (by simp))
/-- C('text'), no own __init__ -/
def tMk0 (Ca : Addr) (te : TE) : TE := fun σ H Q => te σ H fun _ H1 => ∀ (a : Addr) (oe : Obj), H1 a = none → oe.cls = .ref Ca → oe.dict = none → (∃ vs, oe.data = .fields vs) → Q (.ref a) (upd H1 a (exF oe))
theorem pe_mk0 {te : TE} {bmB : List Value} {Bn iX : String} (F : PySem.ExcBaseFacts Bn newId iX bmB) (q : PySem.W.excIn X.K Ca bmB newId = true) (gC : X.mg x = some (.ref Ca)) (kC : PySem.W.keepIn X.K (.ref Ca) = true) (hg : Gl X x)
    (he : PE X e te) (hs : starEach [e] X.env = (false, eval e X.env) :: starEach [] X.env := by rfl) (hdb : (x == ("__debug__" : Str)) = false := by decide) :
    PE X (.Call (.Name x p) [e] [] pos) (tMk0 Ca te) := by
  refine ⟨fun pins s σ H Q I h => ?_⟩
  refine wpAny_Call_Name_kw (ld_glob I hg gC ?_ hdb)
  refine PySem.W.callWith_K (h₀ := X.base) I.ok.mod.kin kC ?_ hs (by rfl)
  rw [hs]; refine Calls.spliced_cons (thn (he.run pins s σ H _ I h) fun u s1 ⟨v, H1, I1, r1, q1⟩ => Calls.spliced_nil ⟨I1.kIn, ?_⟩)
  show wpAny _ _ (call (.ref Ca) [u]) _ _ _
  obtain ⟨bm, N, nm, qn, bs, hdct, sn, sub, ab, col, dd, k0, k1, k2, k3, k5, mN, hC, hN, hni, T⟩ := exc_obj I1.kIn q
  refine wpAny_call_exc_subT F T hC hN hni (fun h' a hm => ?_) (by show 1 ≤ sizeLine; rw [sizeLine_eq]; omega)
  have hn : H1 a = none := I1.hok.gone hm.new
  obtain ⟨t, ht, _, _⟩ := hm.there
  have q2 := fun oe => q1 a oe hn
  have q3 := q2 { cls := .ref Ca, data := .fields #[.ref t, .none, .none, .none, .bool false, .none] } rfl rfl ⟨_, rfl⟩
  generalize ({ cls := .ref Ca, data := .fields #[.ref t, .none, .none, .none, .bool false, .none] } : Obj) = oe at ht q3
  have ok : ObjOk X.prog X.w (upd H1 a (exF oe)) h' a (exF oe) := ⟨ht, trivial, ⟨_, ht⟩, fun _ _ _ _ => trivial⟩
  exact ⟨.ref a, _, I1.laidN hm.keeps hm.new hn ok, rfl, q3⟩
end
end Pd

namespace Pd
open PySem PySem.Spec L2
open PyProof.Rows hiding St
variable [Codes]
/-- an exception's class, whatever stands behind it -/
def XKnown (K : PySem.W.Frag) (mg : Str → Option Value) (c : Str) (Ca : Addr) : Prop := ∃ t newId initId, XCls K mg t newId initId c Ca
theorem ns_exc {C : Cn} {W : Wd} {c : Str} {ks : List Str} {ds : List D} {v : V} (r : Rep C W (.exc c ks ds) v) : ∃ a xs, v = .ref a ∧ ExcAt C W a c (ks.zip xs) ∧ ks.length = xs.length ∧ RepL C W ds xs := by
  unfold Rep at r; exact r
theorem lay_exc {C : Cn} {W : Wd} (ok : WOk C W) {a dx Ca : Addr} {c : Str} {ks : List Str} {ds : List D} {xs : List V} {oe : Obj} (hm : C.mg c = some (.ref Ca)) (ha : W.H a = none) (hd : W.H dx = none) (ne : a ≠ dx) (h1 : oe.cls = .ref Ca) (h2 : oe.dict = some dx) (h3 : ∃ vs, oe.data = .fields vs)
    (hl : xs.length = ks.length) (r : RepL C W ds xs) : ∃ W', W'.H = upd (upd W.H dx (.xd (ks.zip xs))) a (exF oe) ∧ W'.st = W.st ∧ WOk C W' ∧ Ext W W' ∧ Rep C W' (.exc c ks ds) (.ref a) := by
  have ok1 := lay_ok ok hd (.xd (ks.zip xs))
  have e1 := lay_ext ok hd (.xd (ks.zip xs))
  have ha1 : (W.lay dx (.xd (ks.zip xs))).H a = none := by show upd W.H dx _ a = none; rw [upd_ne ne]; exact ha
  have ok2 := lay_ok ok1 ha1 (exF oe)
  have e2 := lay_ext ok1 ha1 (exF oe)
  refine ⟨(W.lay dx (.xd (ks.zip xs))).lay a (exF oe), rfl, rfl, ok2, e1.trans e2, ?_⟩
  unfold Rep
  refine ⟨a, xs, rfl, ⟨Ca, oe, hm, upd_same, lay_not_live ok1 ha1 _, h1, h3, .inr ⟨dx, h2, ?_, ?_⟩⟩, hl.symm, (r.ext e1).ext e2⟩
  · show upd (upd W.H dx _) a _ dx = _
    rw [upd_ne (Ne.symm ne), upd_same]
  · exact fun z => lay_not_live ok hd (.xd (ks.zip xs)) (by
      rcases z with ⟨n, c, z1, z2, z3⟩ | z
      · exact .inl ⟨n, c, z1, z2, z3⟩
      · exact .inr z)
theorem lay_exc0 {C : Cn} {W : Wd} (ok : WOk C W) {a Ca : Addr} {c : Str} {oe : Obj} (hm : C.mg c = some (.ref Ca)) (ha : W.H a = none) (h1 : oe.cls = .ref Ca) (h2 : oe.dict = none) (h3 : ∃ vs, oe.data = .fields vs) :
    ∃ W', W'.H = upd W.H a (exF oe) ∧ W'.st = W.st ∧ WOk C W' ∧ Ext W W' ∧ Rep C W' (.exc c [] []) (.ref a) := by
  refine ⟨W.lay a (exF oe), rfl, rfl, lay_ok ok ha (exF oe), lay_ext ok ha (exF oe), ?_⟩
  unfold Rep
  exact ⟨a, [], rfl, ⟨Ca, oe, hm, upd_same, lay_not_live ok ha _, h1, h3, .inl ⟨h2, rfl⟩⟩, rfl, .nil⟩
/-! ## C(e, ..) -/
def mMkx (u : Bool) (c : Str) (ks : List Str) (lm : LM) : EM := fun en st => if u = true then mb (lm en st) fun ds st => if ds.length = ks.length then .ok (.exc c ks ds) st else .bad else .bad
def mMk0 (c : Str) (m : EM) : EM := fun en st => mb (m en st) fun _ st => .ok (.exc c [] []) st
section
variable {X : Cx} {Wx : WX} {e : Expr} {es : List Expr} {m : EM} {lm : LM} {x : Str} {p pos : Pos} {t : List Value} {newId initId : String} {Ca fI : Addr} {fd : FuncData} {ps fs : List Str} {k : Nat}
theorem pd_mkx {u : Bool} (hu : u = true → 2 ≤ k) (B : Px.XBase t newId initId) (T : XCls X.K X.mg t newId initId x Ca) (iC : PySem.W.findIn X.K (.ref Ca) "__init__" = some (some (.ref fI))) (tI : PySem.W.typeIn X.K (.ref fI) = some (.type "function"))
    (F1 : ∀ j, FnG X.prog X.w X.K X.mg X.base (j + 1) fI fd ps (spIn Ca fs)) (b : Bd X Wx k) (hb : Binds X.K fd ps []) (ha : PDA X Wx (e :: es) lm) (hg : Gl X x := by rfl) (hz : fs.length ≤ 1000 := by decide)
    (hdb : (x == ("__debug__" : Str)) = false := by decide) (he : starEach (e :: es) X.env = (false, eval e X.env) :: starEach es X.env := by rfl) (hpl : (backTo pos (starEach es X.env)).any (·.1) = false := by rfl) :
    PD X Wx (.Call (.Name x p) (e :: es) [] pos) (mMkx u x fs lm) := by
  cases u with
  | false => exact ⟨⟨fun pins s σ H Q I ⟨W, en, _, _, _, q⟩ => q.elim⟩⟩
  | true =>
    have h2 := hu rfl
    match k, h2, b with
    | j + 2, _, b =>
      refine ⟨PE.weak (pe_mkx B T iC tI (F1 j) b.rg hb hg ha.pa hdb he hpl) fun σ H Q ⟨W, en, eH, ok, er, q⟩ => ?_⟩
      subst eH
      have q : PostE (cn X) Wx W σ Q (mb (lm en W.st) fun ds st => if ds.length = fs.length then .ok (.exc x fs ds) st else .bad) := q
      refine seqLE ok er q fun ds W1 vs ok1 e1 er1 r1 q1 => ?_
      by_cases hl : ds.length = fs.length
      · rw [if_pos hl] at q1
        refine ⟨by rw [← r1.length]; exact hl, hz, fun a dx oe ha hd ne h1 h2 h3 => ?_⟩
        obtain ⟨W', w1, w2, w3, w4, w5⟩ := lay_exc ok1 (c := x) T.mg ha hd ne h1 h2 h3 (by rw [← r1.length]; exact hl) r1
        rw [← w1]
        exact q1 W' _ w2 w3 w4 w5
      · rw [if_neg hl] at q1; exact q1.elim
theorem pd_mk0 {bmB : List Value} {Bn iX : String} (F : PySem.ExcBaseFacts Bn newId iX bmB) (q : PySem.W.excIn X.K Ca bmB newId = true) (gC : X.mg x = some (.ref Ca)) (kC : PySem.W.keepIn X.K (.ref Ca) = true)
    (hd : PD X Wx e m) (hg : Gl X x := by rfl) (hs : starEach [e] X.env = (false, eval e X.env) :: starEach [] X.env := by rfl) (hdb : (x == ("__debug__" : Str)) = false := by decide) :
    PD X Wx (.Call (.Name x p) [e] [] pos) (mMk0 x m) :=
  ⟨PE.weak (pe_mk0 F q gC kC hg hd.pe hs hdb) fun σ H Q ⟨W, en, eH, ok, er, q⟩ => by
    subst eH
    refine seqE ok er q fun d W1 v ok1 e1 er1 r1 q1 => ?_
    intro a oe ha h1 h2 h3
    obtain ⟨W', w1, w2, w3, w4, w5⟩ := lay_exc0 ok1 (c := x) gC ha h1 h2 h3
    rw [← w1]
    exact q1 W' _ w2 w3 w4 w5⟩
end
/-! ## isinstance of an exception -/
def IsAll (K : PySem.W.Frag) (mg : Str → Option Value) (cv : Value) (l : List (Str × Bool)) : Prop := ∀ p ∈ l, ∃ Ca, XKnown K mg p.1 Ca ∧ PySem.W.kitOne K (.ref Ca) cv = some p.2
def isxB (l : List (Str × Bool)) (d : D) (_ : Sto) : Option D := match d with | .exc c _ _ => (l.lookup c).map .bl | _ => none
theorem lookup_mem {α : Type} {l : List (Str × α)} {c : Str} {b : α} (h : l.lookup c = some b) : (c, b) ∈ l := by
  induction l with
  | nil => cases h
  | cons p l ih =>
    obtain ⟨c', b'⟩ := p
    rw [List.lookup_cons] at h
    cases e : (c == c') with
    | true =>
      rw [e] at h
      cases h
      rw [show c = c' by simpa using e]
      exact List.mem_cons_self
    | false => rw [e] at h; exact List.mem_cons_of_mem _ (ih h)
def rIsX (K : PySem.W.Frag) (mg : Str → Option Value) : List V → Hp → VK → Prop := fun xs H Q => ∃ (a D : Addr) (n : Str) (oe : Obj) (c : V) (cv : Value) (b : Bool), xs = [.ref a, c] ∧ ClsV c cv ∧ H a = some (exF oe) ∧ oe.cls = .ref D ∧ (∃ vs, oe.data = .fields vs) ∧
  (oe.dict = none ∨ ∃ dx fs, oe.dict = some dx ∧ H dx = some (.xd fs)) ∧ XKnown K mg n D ∧ PySem.W.kitOne K (.ref D) cv = some b ∧ Q (.bl b) H
section
variable {X : Cx} {Wx : WX}
theorem inst_exc {pins : List (Addr × Obj)} {σ : St} {H : Hp} {s : Shared} {a D : Addr} {oe : Obj} (I : Inv X pins σ H s) (ha : H a = some (exF oe)) (hc : oe.cls = .ref D) (hv : ∃ vs, oe.data = .fields vs) (hd : oe.dict = none ∨ ∃ dx fs, oe.dict = some dx ∧ H dx = some (.xd fs)) : ∃ od, PySem.W.InstAt s.heap a oe D od := by
  have g : s.heap.get? a = some oe := (I.hok a _ ha).1
  obtain ⟨vs, hv⟩ := hv
  have nc : PySem.W.notCls oe = true := by unfold PySem.W.notCls; rw [hv] <;> rfl
  rcases hd with hd | ⟨dx, fs, hd, hx⟩
  · exact ⟨none, g, hc, nc, by rw [hd]; trivial⟩
  · have hx : ObjOk X.prog X.w H s.heap dx (.xd fs) := I.hok dx _ hx
    obtain ⟨mA, ⟨o, es, ep, ho, _⟩, _⟩ := hx
    exact ⟨some o, g, hc, nc, by rw [hd]; exact ho⟩
theorem call_isX : CallR X (.builtin "isinstance") (rIsX X.K X.mg) := by
  intro pins s σ H xs us Q I r h
  obtain ⟨a, D, n, oe, c, cv, b, rfl, hcv, ha, hc, hv, hd, ⟨t, newId, initId, T⟩, e, q⟩ := h
  obtain ⟨u1, u2, rfl, r1, r2⟩ := vals2 r
  cases (show u1 = Value.ref a from r1)
  have e2 := hcv.eq r2
  subst e2
  obtain ⟨od, J⟩ := inst_exc I ha hc hv hd
  obtain ⟨cd, h1, _⟩ := T.cd
  exact PySem.W.kia_one (PySem.W.kitx_exc (x := a) (C := D) (ox := oe) (od := od) (by rw [h1]; rfl) T.ga T.gg T.ex T.ca T.cg T.ct T.ob) I.kIn J e (fun z => nomatch z) fun tk => ⟨.bl b, H, I.tok tk, rfl, q⟩
theorem exc_isx {W : Wd} {d : D} {v : V} {l : List (Str × Bool)} {st : Sto} {d' : D} {cv : Value} (A : IsAll X.K X.mg cv l) (r : Rep (cn X) W d v) (h : isxB l d st = some d') : ∃ (a Da : Addr) (n : Str) (oe : Obj) (b : Bool), v = .ref a ∧ W.H a = some (exF oe) ∧ oe.cls = .ref Da ∧ (∃ vs, oe.data = .fields vs) ∧
    (oe.dict = none ∨ ∃ dx fs, oe.dict = some dx ∧ W.H dx = some (.xd fs)) ∧ XKnown X.K X.mg n Da ∧ PySem.W.kitOne X.K (.ref Da) cv = some b ∧ d' = .bl b := by
  unfold isxB at h
  split at h
  · rename_i c ks ds
    obtain ⟨b, hb, rfl⟩ := Option.map_eq_some_iff.mp h
    obtain ⟨Ca, kn, ek⟩ := A _ (lookup_mem hb)
    obtain ⟨a, xs, rfl, ⟨Ca', oe, m, ha, _, hc, hv, hd⟩, _, _⟩ := ns_exc r
    obtain ⟨t, n1, n2, T⟩ := kn
    have e : Ca' = Ca := by
      have z := m.symm.trans T.mg
      cases z; rfl
    subst e
    exact ⟨a, _, c, oe, b, rfl, ha, hc, hv, hd.imp And.left fun ⟨dx, q1, q2, _⟩ => ⟨dx, _, q1, q2⟩, ⟨t, n1, n2, T⟩, ek, rfl⟩
  · cases h
variable {x : Str} {e : Expr} {m : EM} {p p2 pos : Pos} {l : List (Str × Bool)}
/-- isinstance(e, C), C an own class -/
theorem pd_isx {Ca : Addr} (A : IsAll X.K X.mg (.ref Ca) l) (he : PD X Wx e m) (hm : X.mg "isinstance" = none) (hm2 : X.mg x = some (.ref Ca)) (hg : Gl X "isinstance" := by rfl) (hg2 : Gl X x := by rfl) (hdb : (x == ("__debug__" : Str)) = false := by decide)
    (hs : starEach [e, .Name x p2] X.env = (false, eval e X.env) :: starEach [.Name x p2] X.env := by rfl) (hs2 : starEach [.Name x p2] X.env = (false, eval (.Name x p2) X.env) :: starEach [] X.env := by rfl) (hpl : (backTo pos (starEach [.Name x p2] X.env)).any (·.1) = false := by rfl) :
    PD X Wx (.Call (.Name "isinstance" p) [e, .Name x p2] [] pos) (mUn (isxB l) m) :=
  ⟨PE.weak (pe_callB call_isX hg hm rfl (pa_cons he.pe (pa_cons (pe_glob (v := .ref Ca) hg2 hm2 rfl hdb) pa_nil hs2) hs) (by decide) (by decide) hs hpl) fun σ H Q ⟨W, en, eH, ok, er, q⟩ => by
    subst eH
    refine seqE ok er q fun d W1 v ok1 e1 er1 r1 q1 => ?_
    cases e4 : isxB l d W1.st with
    | none => rw [e4] at q1; exact q1.elim
    | some d' =>
      rw [e4] at q1
      obtain ⟨a, Da, n, oe, b, rfl, h1, h2, h3, h4, h5, h6, rfl⟩ := exc_isx A r1 e4
      exact ⟨a, Da, n, oe, _, _, b, rfl, .own Ca, h1, h2, h3, h4, h5, h6, q1 W1 _ rfl ok1 (Ext.refl _) (.bl b)⟩⟩
/-- isinstance(e, T), T a built-in class -/
theorem pd_isxB {T : String} (A : IsAll X.K X.mg (.type T) l) (he : PD X Wx e m) (hm : X.mg "isinstance" = none) (hm2 : X.mg x = none) (hg : Gl X "isinstance" := by rfl) (hg2 : Gl X x := by rfl) (hv : bootBuiltins x = some (.type T) := by rfl) (hn : x ≠ "__name__" := by decide) (hdb : (x == ("__debug__" : Str)) = false := by decide)
    (hs : starEach [e, .Name x p2] X.env = (false, eval e X.env) :: starEach [.Name x p2] X.env := by rfl) (hs2 : starEach [.Name x p2] X.env = (false, eval (.Name x p2) X.env) :: starEach [] X.env := by rfl) (hpl : (backTo pos (starEach [.Name x p2] X.env)).any (·.1) = false := by rfl) :
    PD X Wx (.Call (.Name "isinstance" p) [e, .Name x p2] [] pos) (mUn (isxB l) m) :=
  ⟨PE.weak (pe_callB call_isX hg hm rfl (pa_cons he.pe (pa_cons (pe_bltn (v := .ty T) hg2 hm2 hv rfl hn hdb) pa_nil hs2) hs) (by decide) (by decide) hs hpl) fun σ H Q ⟨W, en, eH, ok, er, q⟩ => by
    subst eH
    refine seqE ok er q fun d W1 v ok1 e1 er1 r1 q1 => ?_
    cases e4 : isxB l d W1.st with
    | none => rw [e4] at q1; exact q1.elim
    | some d' =>
      rw [e4] at q1
      obtain ⟨a, Da, n, oe, b, rfl, h1, h2, h3, h4, h5, h6, rfl⟩ := exc_isx A r1 e4
      exact ⟨a, Da, n, oe, _, _, b, rfl, .ty T, h1, h2, h3, h4, h5, h6, q1 W1 _ rfl ok1 (Ext.refl _) (.bl b)⟩⟩
end
/-! ## e.f -/
def FldAll (K : PySem.W.Frag) (mg : Str → Option Value) (f : Str) (cs : List Str) : Prop := ∀ c ∈ cs, ∃ Ca, XKnown K mg c Ca ∧ PySem.W.findIn K (.ref Ca) f = some none
def fldX (cs : List Str) (f : Str) (d : D) (_ : Sto) : Option D := match d with | .exc c ks ds => if cs.contains c = true then (ks.zip ds).lookup f else none | _ => none
theorem zip_lookup {C : Cn} {W : Wd} {f : Str} : ∀ {ks : List Str} {ds : List D} {xs : List V} {d : D}, RepL C W ds xs → (ks.zip ds).lookup f = some d → ∃ v, (ks.zip xs).lookup f = some v ∧ Rep C W d v
  | [], _, _, _, _, h => by cases h
  | _ :: _, [], _, _, _, h => by cases h
  | k :: ks, d0 :: ds, xs, d, r, h => by
    obtain ⟨v, r', rfl, h1, h2⟩ := r.cons_inv
    rw [List.zip_cons_cons, List.lookup_cons] at h ⊢
    cases e : (f == k) with
    | true => rw [e] at h; cases h; exact ⟨v, rfl, h1⟩
    | false => rw [e] at h; exact zip_lookup h2 h
def tXfld (K : PySem.W.Frag) (mg : Str → Option Value) (f : Str) (te : TE) : TE := fun σ H Q => te σ H fun x H1 => ∃ (a D dd : Addr) (n : Str) (oe : Obj) (fs : List (Str × V)) (v : V), x = .ref a ∧ H1 a = some (exF oe) ∧ oe.cls = .ref D ∧ (∃ vs, oe.data = .fields vs) ∧ oe.dict = some dd ∧ H1 dd = some (.xd fs) ∧
  XKnown K mg n D ∧ PySem.W.findIn K (.ref D) f = some none ∧ fs.lookup f = some v ∧ Q v H1
section
variable {X : Cx} {Wx : WX} {e : Expr} {te : TE} {m : EM} {pos : Pos} {f : Str} {cs : List Str}
theorem pe_xfld (he : PE X e te) (hb : attributeBase e f X.env (eval e X.env) = eval e X.env := by rfl) : PE X (.Attribute e f pos) (tXfld X.K X.mg f te) := by
  refine ⟨fun pins s σ H Q I h => ?_⟩
  refine attr_of hb (thn (he.run pins s σ H _ I h) fun u s1 hh => ?_)
  obtain ⟨x, H1, I1, rx, a, D, dd, n, oe, fs, v, ex, ha, hc, hv, hd, hx, ⟨t, n1, n2, T⟩, hno, l, q⟩ := hh
  subst ex
  obtain rfl : u = Value.ref a := rx
  have g : s1.heap.get? a = some oe := (I1.hok a _ ha).1
  obtain ⟨vs, hv⟩ := hv
  have hx : ObjOk X.prog X.w H1 s1.heap dd (.xd fs) := I1.hok dd _ hx
  obtain ⟨mA, hns, hr⟩ := hx
  obtain ⟨od, ho, hl⟩ := lookIn_ns hns
  obtain ⟨u, hu, ru⟩ := RelO.some_of (v := v) (o := mA f) (by rw [← l]; exact hr f)
  have J : PySem.W.InstAt s1.heap a oe D (some od) := ⟨g, hc, by unfold PySem.W.notCls; rw [hv] <;> rfl, by rw [hd]; exact ho⟩
  exact HandSPX.exc_get I1.kIn J T.ga T.gg T.ex (PySem.W.findObj_own T.hd hno rfl (by rw [hl, hu])) (handed_of ru) ⟨v, H1, I1.tok _, ru, q⟩
theorem pd_xfld (A : FldAll X.K X.mg f cs) (he : PD X Wx e m) (hb : attributeBase e f X.env (eval e X.env) = eval e X.env := by rfl) : PD X Wx (.Attribute e f pos) (mUn (fldX cs f) m) :=
  ⟨PE.weak (pe_xfld he.pe hb) fun σ H Q ⟨W, en, eH, ok, er, q⟩ => by
    subst eH
    refine seqE ok er q fun d W1 v ok1 e1 er1 r1 q1 => ?_
    cases e4 : fldX cs f d W1.st with
    | none => rw [e4] at q1; exact q1.elim
    | some d' =>
      rw [e4] at q1
      unfold fldX at e4
      split at e4
      · rename_i c ks ds
        split at e4
        · rename_i hc
          obtain ⟨Ca, kn, hno⟩ := A c (by simpa using hc)
          obtain ⟨a, xs, rfl, ⟨Ca', oe, mm, ha, _, hcl, hv, hd⟩, hl, hr⟩ := ns_exc r1
          obtain ⟨t, n1, n2, T⟩ := kn
          have e : Ca' = Ca := by
            have z := mm.symm.trans T.mg
            cases z; rfl
          subst e
          obtain ⟨v, hv2, rv⟩ := zip_lookup hr e4
          rcases hd with ⟨_, hk⟩ | ⟨dx, q3, q4, _⟩
          · rw [hk] at hv2; cases hv2
          · exact ⟨a, _, dx, c, oe, _, v, rfl, ha, hcl, hv, q3, q4, ⟨t, n1, n2, T⟩, hno, hv2, q1 W1 _ rfl ok1 (Ext.refl _) rv⟩
        · cases e4
      · cases e4⟩
end
end Pd

namespace Pd
open PySem PySem.Spec L2
open PyProof.Rows hiding St
variable [Codes]
/-! ## what is reckoned of the classes -/
def xclA (K : PySem.W.Frag) (A : Addr) (t : List Value) (newId : String) : Bool := match K.lookup A with
  | some ⟨.type "type", _, .cls cd, sl⟩ => (match cd.mro, sl.toList with
    | .ref C' :: bm, [_, _, _, _, some (.builtin n), _] => C' == A && (n == newId && (!cd.hasDel && (cd.hasDict && Px.refsT t bm)))
    | _, _ => false)
  | _ => false
def xclB (K : PySem.W.Frag) (A : Addr) (t : List Value) (newId : String) : Bool :=
  xclA K A t newId && (PySem.W.keepIn K (.ref A) && (PySem.W.findIn K (.ref A) "__setattr__" == some (some (.builtin "object.__setattr__")) && (PySem.W.findIn K (.ref A) "__getattribute__" == some (some (.builtin "BaseException.__getattribute__")) &&
    (PySem.W.findIn K (.ref A) "__getattr__" == some none && (PySem.W.subIn K (.ref A) (.type "BaseException") == some true && (PySem.W.typeIn K (.ref A) == some (.type "type") && (PySem.W.findIn K (.ref A) "__class__" == some (some (.builtin "object.__class__")) &&
    (PySem.W.specialIn K (.builtin "object.__class__") "__get__" == some (some (.builtin "getset_descriptor.__get__")) && (PySem.W.takesIn K (.builtin "object.__class__") == some true && PySem.W.mroIn K A (.type "object") == some true)))))))))
def xiB (K : PySem.W.Frag) (A : Addr) (initId : String) : Bool :=
  PySem.W.specialIn K (.ref A) "__getattribute__" == some (some (.builtin "type.__getattribute__")) && (PySem.W.readsIn K A (.type "type") && ((match PySem.W.findCls K (.ref A) (.type "type") "__init__" with | some (.val (.builtin n)) => n == initId | _ => false) && PySem.W.handedIn (.builtin initId)))
section
variable {K : PySem.W.Frag} {h : Heap} {mg : Str → Option Value} {t : List Value} {newId initId : String} {c : Str} {A : Addr}
theorem xclA_ok (q : xclA K A t newId = true) : ∃ nm qn N bs bm sn sub ab col dd k0 k1 k2 k3 k5, K.lookup A = some (excClassObj nm qn A N bs bm true sn sub ab col dd k0 k1 k2 k3 k5 newId) ∧ Px.refsT t bm = true := by
  unfold xclA at q
  split at q
  · rename_i dd cd sl ho
    split at q
    · rename_i C' bm k0 k1 k2 k3 n k5 hm hs
      obtain ⟨a1, q1⟩ := Bool.and_eq_true_iff.mp q
      obtain ⟨a2, q2⟩ := Bool.and_eq_true_iff.mp q1
      obtain ⟨a3, q3⟩ := Bool.and_eq_true_iff.mp q2
      obtain ⟨a4, q4⟩ := Bool.and_eq_true_iff.mp q3
      obtain rfl : C' = A := by simpa using a1
      obtain rfl : n = newId := by simpa using a2
      obtain ⟨nm, bs, mro, ns, qn, hd, sn, sub, ab, col, del⟩ := cd
      dsimp only at hm a3 a4
      subst hm
      obtain rfl : del = false := by simpa using a3
      obtain rfl : hd = true := a4
      have hsl : sl = #[k0, k1, k2, k3, some (.builtin n), k5] := by
        obtain ⟨l⟩ := sl
        simp only at hs
        rw [hs]
      subst hsl
      exact ⟨nm, qn, ns, bs, bm, sn, sub, ab, col, dd, k0, k1, k2, k3, k5, ho, q4⟩
    · cases q
  · cases q
theorem xcl_ok (X : K.In h) (G : h.Ns mainGlobals mg) (a : PySem.W.nsIn K mainGlobals c = some (some (.ref A))) (q : xclB K A t newId = true) : XCls K mg t newId initId c A := by
  obtain ⟨q0, q⟩ := Bool.and_eq_true_iff.mp q
  obtain ⟨q1, q⟩ := Bool.and_eq_true_iff.mp q
  obtain ⟨q2, q⟩ := Bool.and_eq_true_iff.mp q
  obtain ⟨q3, q⟩ := Bool.and_eq_true_iff.mp q
  obtain ⟨q4, q⟩ := Bool.and_eq_true_iff.mp q
  obtain ⟨q5, q⟩ := Bool.and_eq_true_iff.mp q
  obtain ⟨q6, q⟩ := Bool.and_eq_true_iff.mp q
  obtain ⟨q7, q⟩ := Bool.and_eq_true_iff.mp q
  obtain ⟨q8, q⟩ := Bool.and_eq_true_iff.mp q
  obtain ⟨q9, qa⟩ := Bool.and_eq_true_iff.mp q
  exact ⟨xclA_ok q0, PySem.W.mg_of X G a, q1, beq_iff_eq.mp q2, beq_iff_eq.mp q3, beq_iff_eq.mp q4, beq_iff_eq.mp q5, beq_iff_eq.mp q6, beq_iff_eq.mp q7, beq_iff_eq.mp q8, beq_iff_eq.mp q9, beq_iff_eq.mp qa⟩
theorem xi_ok (X : K.In h) (G : h.Ns mainGlobals mg) (a : PySem.W.nsIn K mainGlobals c = some (some (.ref A))) (q : xiB K A initId = true) : XIni K mg initId c A := by
  obtain ⟨q1, q⟩ := Bool.and_eq_true_iff.mp q
  obtain ⟨q2, q⟩ := Bool.and_eq_true_iff.mp q
  obtain ⟨q3, q4⟩ := Bool.and_eq_true_iff.mp q
  refine ⟨PySem.W.mg_of X G a, beq_iff_eq.mp q1, q2, ?_, q4⟩
  split at q3
  · rename_i n e
    rw [e, show n = initId by simpa using q3]
  · cases q3
/-- isinstance, over a list of classes by their places -/
def isTab (K : PySem.W.Frag) (cv : Value) (l : List (Addr × Bool)) : Bool := l.all fun p => PySem.W.kitOne K (.ref p.1) cv == some p.2
theorem isAll_nil {cv : Value} : IsAll K mg cv [] := fun p hp => by cases hp
theorem isAll_cons {cv : Value} {b : Bool} {l : List (Str × Bool)} (x : XCls K mg t newId initId c A) (e : PySem.W.kitOne K (.ref A) cv = some b) (r : IsAll K mg cv l) : IsAll K mg cv ((c, b) :: l) := fun p hp => by
  rcases List.mem_cons.mp hp with rfl | hp
  · exact ⟨A, ⟨t, newId, initId, x⟩, e⟩
  · exact r p hp
theorem isTab_cons {cv : Value} {b : Bool} {l : List (Addr × Bool)} (h : isTab K cv ((A, b) :: l) = true) : PySem.W.kitOne K (.ref A) cv = some b ∧ isTab K cv l = true := by
  unfold isTab at h ⊢
  rw [List.all_cons] at h
  obtain ⟨h1, h2⟩ := Bool.and_eq_true_iff.mp h
  exact ⟨beq_iff_eq.mp h1, h2⟩
theorem fld_nil {f : Str} : FldAll K mg f [] := fun p hp => by cases hp
theorem fld_cons {f : Str} {cs : List Str} (x : XCls K mg t newId initId c A) (e : PySem.W.findIn K (.ref A) f = some none) (r : FldAll K mg f cs) : FldAll K mg f (c :: cs) := fun p hp => by
  rcases List.mem_cons.mp hp with rfl | hp
  · exact ⟨A, ⟨t, newId, initId, x⟩, e⟩
  · exact r p hp
end
theorem binds_by {K : PySem.W.Frag} {x qual : Str} {st : Stmt} {f : Addr} {fd : FuncData} {ps : List Str} (F : Fun K x qual st f fd)
    (hb : ∀ (kV doc pm : Value) (an : Option Addr) (cdv ct : Value) (us : List Value), us.length = ps.length → bindArgs (PySem.W.fnOf x qual (defArgs st) (defBody st) (defScope st) .none kV doc pm an cdv ct) ⟨us, []⟩ = pure (ps.zip us)) : Binds K fd ps [] := F.binds hb
end Pd

namespace Pd
open PySem PySem.Spec L2
open PyProof.Rows hiding St
variable [Codes]
/-! ## list(range(n)); what is never gone -/
def rgD (d : D) : Option (List D) := match d with | .int n => if 0 ≤ n ∧ n ≤ 1000000 then some (rng 0 n.toNat) else none | _ => none
def mRgL (m : EM) : EM := fun en st => mb (m en st) fun d st => match rgD d with | some ds => .ok (.lst ds) st | none => .bad
def mRgC (m : EM) : EM := fun en st => mb (m en st) fun d st => match rgD d with | some ds => .ok (.cell st.length) (st ++ [.lst ds]) | none => .bad
def sBad : SM := fun _ _ => .bad
def mBad : EM := fun _ _ => .bad
section
variable {X : Cx} {Wx : WX} {a : Expr} {m : EM} {p p2 pos pos2 : Pos}
theorem rgV_rep {C : Cn} {W : Wd} {n : Int} : RepL C W (rng 0 n.toNat) (rgV 0 n) := by
  have e : rng 0 n.toNat = ((List.range n.toNat).map fun i => (0 : Int) + (i : Nat)).map D.int := by unfold rng; rw [List.map_map]; rfl
  have e2 : rgV 0 n = ((List.range n.toNat).map fun i => (0 : Int) + (i : Nat)).map V.int := by
    unfold rgV
    rw [List.map_map]
    simp only [Int.sub_zero]
    rfl
  rw [e, e2]
  exact RepL.of_ints _
theorem rg_small {n : Int} (h : 0 ≤ n ∧ n ≤ 1000000) : RgOk 0 n := .of_le (Int.le_refl 0) (by omega) (by omega) h.1
theorem pd_listRg (h : PD X Wx a m) (hc : X.calm = true) (hm : X.mg "list" = none) (hm2 : X.mg "range" = none) (hg : Gl X "list" := by rfl) (hg2 : Gl X "range" := by rfl) (na : starEach [a] X.env = (false, eval a X.env) :: starEach [] X.env := by rfl)
    (nb : starEach [.Call (.Name "range" p2) [a] [] pos2] X.env = (false, eval (.Call (.Name "range" p2) [a] [] pos2) X.env) :: starEach [] X.env := by rfl) : PD X Wx (.Call (.Name "list" p) [.Call (.Name "range" p2) [a] [] pos2] [] pos) (mRgL m) :=
  ⟨PE.weak (pe_listRg hc hg hm (prg_1 hg2 hm2 h.pe na) nb) fun σ H Q ⟨W, en, eH, ok, er, q⟩ => by
    subst eH
    refine seqE ok er q fun d W1 v ok1 e1 er1 r1 q1 => ?_
    cases d with
    | int n =>
      have q1 : PostE (cn X) Wx W1 σ Q (match (if 0 ≤ n ∧ n ≤ 1000000 then some (rng 0 n.toNat) else none) with | some ds => .ok (.lst ds) W1.st | none => .bad) := q1
      by_cases hn : 0 ≤ n ∧ n ≤ 1000000
      · rw [if_pos hn] at q1
        refine ⟨n, r1.int_inv, rg_small hn, fun l hl => ?_⟩
        exact q1 (W1.lay l (.lst (rgV 0 n))) _ rfl (lay_ok ok1 hl _) (lay_ext ok1 hl _) (lay_lst ok1 hl rgV_rep)
      · rw [if_neg hn] at q1; exact q1.elim
    | _ => exact q1.elim⟩
theorem pd_listRgC (h : PD X Wx a m) (hc : X.calm = true) (hm : X.mg "list" = none) (hm2 : X.mg "range" = none) (hg : Gl X "list" := by rfl) (hg2 : Gl X "range" := by rfl) (na : starEach [a] X.env = (false, eval a X.env) :: starEach [] X.env := by rfl)
    (nb : starEach [.Call (.Name "range" p2) [a] [] pos2] X.env = (false, eval (.Call (.Name "range" p2) [a] [] pos2) X.env) :: starEach [] X.env := by rfl) : PD X Wx (.Call (.Name "list" p) [.Call (.Name "range" p2) [a] [] pos2] [] pos) (mRgC m) :=
  ⟨PE.weak (pe_listRg hc hg hm (prg_1 hg2 hm2 h.pe na) nb) fun σ H Q ⟨W, en, eH, ok, er, q⟩ => by
    subst eH
    refine seqE ok er q fun d W1 v ok1 e1 er1 r1 q1 => ?_
    cases d with
    | int n =>
      have q1 : PostE (cn X) Wx W1 σ Q (match (if 0 ≤ n ∧ n ≤ 1000000 then some (rng 0 n.toNat) else none) with | some ds => .ok (.cell W1.st.length) (W1.st ++ [.lst ds]) | none => .bad) := q1
      by_cases hn : 0 ≤ n ∧ n ≤ 1000000
      · rw [if_pos hn] at q1
        refine ⟨n, r1.int_inv, rg_small hn, fun l hl => ?_⟩
        exact q1 (W1.cel l (.lst (rgV 0 n)) (.lst (rng 0 n.toNat))) _ rfl (cel_lst_ok ok1 hl rgV_rep) (cel_ext ok1 hl _ _) (cel_rep ok1)
      · rw [if_neg hn] at q1; exact q1.elim
    | _ => exact q1.elim⟩
theorem pds_bad {st : Stmt} : PDS X Wx st sBad := ⟨⟨fun pins s σ H D I ⟨W, en, _, _, _, q⟩ => q.elim⟩⟩
theorem pd_bad {e : Expr} : PD X Wx e mBad := ⟨⟨fun pins s σ H Q I ⟨W, en, _, _, _, q⟩ => q.elim⟩⟩
end
end Pd

namespace Pd
open PySem PySem.Spec L2
open PyProof.Rows hiding St
variable [Codes]
/-! ## a list (a dict) that is changed no more: from here on a datum -/
def frzC : Cel → Option D
  | .lst ds => some (.lst ds) | .dct ks ds => some (.dct ks ds) | _ => none
theorem frz_step {C : Cn} {W : Wd} {n : Nat} {c : Cel} {v : V} {d : D} (ok : WOk C W) (r : Rep C W (.cell n) v) (hs : W.st[n]? = some c) (hd : frzC c = some d) :
    WOk C { W with st := W.st.set n .dead } ∧ Ext W { W with st := W.st.set n .dead } ∧ Rep C { W with st := W.st.set n .dead } d v := by
  obtain ⟨a, rfl, ha⟩ := r.cell_inv
  have hn : n < W.st.length := (List.getElem?_eq_some_iff.mp hs).1
  have live : ∀ b, CLive { W with st := W.st.set n .dead } b → CLive W b := fun b ⟨m, e, h1, h2, h3⟩ => by
    have h2 : (W.st.set n .dead)[m]? = some e := h2
    by_cases hm : n = m
    · subst hm
      rw [List.getElem?_set_self hn] at h2; cases h2; exact absurd rfl h3
    · rw [List.getElem?_set_ne hm] at h2; exact ⟨m, e, h1, h2, h3⟩
  have nl : ¬ Live { W with st := W.st.set n .dead } a := fun z => by
    rcases z with ⟨m, e, h1, h2, h3⟩ | z
    · have h2 : (W.st.set n .dead)[m]? = some e := h2
      have hm := idx_one ok ha h1
      subst hm
      rw [List.getElem?_set_self hn] at h2; cases h2; exact h3 rfl
    · exact ok.hidA a z (List.mem_of_getElem? ha)
  have ex : Ext W { W with st := W.st.set n .dead } := ⟨List.prefix_refl _, rfl, fun b o h _ q => ⟨h, fun z => q (live b z)⟩, fun _ h => .inl h, fun _ _ => rfl, fun _ h => h⟩
  have mn := ex.mn
  have trk : Trk W.H a := by
    have q := ok.at_ n a c ha hs
    cases c with
    | lst ds => obtain ⟨xs, e, _⟩ := q; exact ⟨_, e, rfl⟩
    | dct ks ds => obtain ⟨xs, e, _⟩ := q; exact ⟨_, e, rfl⟩
    | _ => cases hd
  refine ⟨⟨?_, ok.nd, fun m b e h1 h2 => ?_, ok.hidT, ok.tabs, fun k m e e' hk h1 h2 u1 u2 => ?_, ok.hidA⟩, ex, ?_⟩
  · show W.A.length = (W.st.set n .dead).length
    rw [List.length_set]; exact ok.len
  · have h1 : W.A[m]? = some b := h1
    have h2 : (W.st.set n .dead)[m]? = some e := h2
    by_cases hm : n = m
    · subst hm
      rw [List.getElem?_set_self hn] at h2; cases h2
      rw [ha] at h1; cases h1; exact trk
    · rw [List.getElem?_set_ne hm] at h2
      exact (ok.at_ m b e h1 h2).mv mn (fun _ _ h _ _ _ => h) (fun _ _ _ _ h _ => h) (fun _ => rfl) fun h => h
  · have h1 : (W.st.set n .dead)[k]? = some e := h1
    have h2 : (W.st.set n .dead)[m]? = some e' := h2
    have nk : n ≠ k := fun z => by subst z; rw [List.getElem?_set_self hn] at h1; cases h1; cases u1
    have nm : n ≠ m := fun z => by subst z; rw [List.getElem?_set_self hn] at h2; cases h2; cases u2
    rw [List.getElem?_set_ne nk] at h1
    rw [List.getElem?_set_ne nm] at h2
    exact ok.pcd k m e e' hk h1 h2 u1 u2
  · have q := ok.at_ n a c ha hs
    cases c with
    | lst ds =>
      obtain ⟨xs, e, h⟩ := q
      cases hd
      unfold Rep
      exact ⟨a, xs, rfl, ⟨e, nl⟩, h.mn mn⟩
    | dct ks ds =>
      obtain ⟨xs, e, hl, h⟩ := q
      cases hd
      unfold Rep
      exact ⟨a, xs, rfl, e, nl, hl, h.mn mn⟩
    | _ => cases hd
def frzV (i : Nat) (en : En) (st : Sto) : Option (En × Sto) := match en[i]? with
  | some (some (.cell n)) => (st[n]?.bind frzC).map fun d => (en.set i (some d), st.set n .dead)
  | _ => none
/-- ahead of a statement the name i is changed no more -/
def sFrz (i : Nat) (m : SM) : SM := fun en st => match frzV i en st with | some (en', st') => m en' st' | none => .bad
/-- an expression whose list is changed no more -/
def mFrz (m : EM) : EM := fun en st => mb (m en st) fun d st => match d with
  | .cell n => (match st[n]?.bind frzC with | some d' => .ok d' (st.set n .dead) | none => .bad)
  | _ => .bad
section
variable {X : Cx} {Wx : WX} {st : Stmt} {e : Expr} {sm : SM} {m : EM} {i : Nat}
theorem EnvR.same {C : Cn} {W : Wd} {σ : St} {en : En} {d : D} {v : V} (h : EnvR C W σ en) (i : Nat) (hσ : σ[i]? = some (some v)) (r : Rep C W d v) : EnvR C W σ (en.set i (some d)) := by
  have e : σ.set i (some v) = σ := by
    apply List.ext_getElem?
    intro j
    by_cases hj : i = j
    · subst hj
      rw [List.getElem?_set_self (List.getElem?_eq_some_iff.mp hσ).1, hσ]
    · rw [List.getElem?_set_ne hj]
  have q := h.set i r
  rw [e] at q
  exact q
theorem pds_frz (h : PDS X Wx st sm) : PDS X Wx st (sFrz i sm) := ⟨PS.weak h.ps fun D σ H ⟨W, en, eH, ok, er, q⟩ => by
  subst eH
  have q : PostS (cn X) Wx W D (match frzV i en W.st with | some (en', st') => sm en' st' | none => .bad) := q
  cases e1 : frzV i en W.st with
  | none => rw [e1] at q; exact q.elim
  | some p =>
    rw [e1] at q
    unfold frzV at e1
    split at e1
    · rename_i n hn
      obtain ⟨d, hd, rfl⟩ := Option.map_eq_some_iff.mp e1
      obtain ⟨c, hc, hd⟩ := Option.bind_eq_some_iff.mp hd
      obtain ⟨v, hv, rv⟩ := er.2 i _ hn
      obtain ⟨ok2, ex, r2⟩ := frz_step ok rv hc hd
      refine ⟨{ W with st := W.st.set n .dead }, en.set i (some d), rfl, ok2, (er.ext ex).same i hv r2, ?_⟩
      exact q.ext ex
    · cases e1⟩
theorem pd_frz (h : PD X Wx e m) : PD X Wx e (mFrz m) := ⟨PE.weak h.pe fun σ H Q ⟨W, en, eH, ok, er, q⟩ => by
  subst eH
  refine ⟨W, en, rfl, ok, er, ?_⟩
  unfold mFrz at q
  cases e1 : m en W.st with
  | bad => rw [e1] at q; exact q.elim
  | err x s => rw [e1] at q; exact q
  | ok d s =>
    rw [e1] at q
    intro W1 v hst ok1 ex1 r1
    subst hst
    rw [mb_ok] at q
    cases d with
    | cell n =>
      have q : PostE (cn X) Wx W σ Q (match W1.st[n]?.bind frzC with | some d' => .ok d' (W1.st.set n .dead) | none => .bad) := q
      cases e2 : W1.st[n]?.bind frzC with
      | none => rw [e2] at q; exact q.elim
      | some d' =>
        rw [e2] at q
        obtain ⟨c, hc, hd⟩ := Option.bind_eq_some_iff.mp e2
        obtain ⟨ok2, ex, r2⟩ := frz_step ok1 r1 hc hd
        exact q { W1 with st := W1.st.set n .dead } v rfl ok2 (ex1.trans ex) r2
    | _ => exact q.elim⟩
end
end Pd

namespace Pd
open PySem PySem.Spec L2
open PyProof.Rows hiding St
variable [Codes]
/-! ## l.pop(i) -/
def popAtG : GM2 := fun o ds st => match o, ds with
  | .cell n, [.int i] => (match st[n]? with | some (.lst es) => if 0 ≤ i then (es[i.toNat]?).map fun d => (d, st.set n (.lst (es.eraseIdx i.toNat))) else none | _ => none)
  | _, _ => none
section
variable {X : Cx}
theorem mt_popAtD : MtD X "list.pop" popAtG := by
  intro pins s σ H x xs v us Q I rx rv ⟨W, o, ds, d, st, e, ok, ro, rd, hg, q⟩
  subst e
  unfold popAtG at hg
  split at hg
  · rename_i n i
    split at hg
    · rename_i es e1
      split at hg
      · rename_i hi
        obtain ⟨d0, h1, h2⟩ := Option.map_eq_some_iff.mp hg
        cases h2
        obtain ⟨vi, rfl, ri⟩ := rd.one
        obtain ⟨a, ys, rfl, ha, hH, z⟩ := cell_lst ok ro e1
        obtain ⟨y, h3, h4⟩ := z.get h1
        have hy : i.toNat < ys.length := (List.getElem?_eq_some_iff.mp h3).1
        have hz : ys.length ≤ 16777216 := by
          have q1 : ObjOk X.prog X.w W.H s.heap a (.lst ys) := I.hok a _ hH
          have := q1.1
          rw [sizeLine_eq] at this; exact this
        have ee := put_ext ok ha e1 rfl (.lst (ys.eraseIdx i.toNat)) (.lst (es.eraseIdx i.toNat))
        have hs : seqIndex? i ys.length = some i.toNat := by
          unfold seqIndex?
          split <;> first | rfl | (simp; omega) | omega
        exact mt_popAt pins s σ _ _ _ v us Q I rx rv ⟨a, ys, i, i.toNat, y, rfl, by rw [ri.int_inv], hH, by omega, by omega, hs, h3, q (W.put n a (.lst (ys.eraseIdx i.toNat)) (.lst (es.eraseIdx i.toNat))) y rfl (put_lst_ok ok ha e1 rfl (z.eraseIdx _)) ee (h4.ext ee)⟩
      · cases hg
    · cases hg
  · cases hg
end
/-! ## classes by a list -/
theorem isAll_tab {K : PySem.W.Frag} {mg : Str → Option Value} {cv : Value} : ∀ {l : List (Str × Addr)} {bs : List Bool}, (∀ p ∈ l, XKnown K mg p.1 p.2) → isTab K cv ((l.map (·.2)).zip bs) = true → l.length = bs.length → IsAll K mg cv ((l.map (·.1)).zip bs)
  | [], _, _, _, _ => isAll_nil
  | p :: l, [], _, _, h => by cases h
  | p :: l, b :: bs, hk, ht, h => by
    obtain ⟨h1, h2⟩ := isTab_cons (A := p.2) (b := b) (l := (l.map (·.2)).zip bs) ht
    obtain ⟨t, n1, n2, X⟩ := hk p (.head _)
    exact isAll_cons X h1 (isAll_tab (fun q hq => hk q (.tail _ hq)) h2 (by simpa using h))
theorem xk_nil {K : PySem.W.Frag} {mg : Str → Option Value} : ∀ p ∈ ([] : List (Str × Addr)), XKnown K mg p.1 p.2 := fun p hp => by cases hp
theorem xk_cons {K : PySem.W.Frag} {mg : Str → Option Value} {t : List Value} {newId initId : String} {c : Str} {A : Addr} {l : List (Str × Addr)} (x : XCls K mg t newId initId c A) (h : ∀ p ∈ l, XKnown K mg p.1 p.2) : ∀ p ∈ (c, A) :: l, XKnown K mg p.1 p.2 := fun p hp => by
  rcases List.mem_cons.mp hp with rfl | hp
  · exact ⟨t, newId, initId, x⟩
  · exact h p hp
end Pd

namespace Pd
open PySem PySem.Spec L2
open PyProof.Rows hiding St
local instance dCPe0 : Codes := ⟨fun _ _ _ _ => .ext fun _ => True, fun _ _ _ _ => ⟨_, rfl⟩, fun _ => "", fun _ => [], []⟩
/-! # what a denotation does, read from its form -/
abbrev ErP := Exn → Sto → Prop
def Ok {α : Type} (o : Out α) (P : α → Sto → Prop) (E : ErP) : Prop := match o with
  | .ok a st => P a st | .err e st => E e st | .bad => False
structure SPost where
  nx : En → Sto → Prop
  rt : D → Sto → Prop
  bk : En → Sto → Prop
  ct : En → Sto → Prop
  er : ErP
def Sk (o : SOut) (S : SPost) : Prop := match o with
  | .nx en st => S.nx en st | .rt d st => S.rt d st | .bk en st => S.bk en st | .ct en st => S.ct en st | .err e _ st => S.er e st | .bad => False
def NoE : ErP := fun _ _ => False
def Lk {α : Type} (o : Option α) (Q : α → Prop) : Prop := match o with | some a => Q a | none => False
def BLk (d : D) (Q : Bool → Prop) : Prop := match d with | .bl k => Q k | _ => False
def Cnd (k : Bool) (A B : Prop) : Prop := (k = true → A) ∧ (k = false → B)
theorem Cnd.t {A B : Prop} (h : A) : Cnd true A B := ⟨fun _ => h, fun z => nomatch z⟩
theorem Cnd.f {A B : Prop} (h : B) : Cnd false A B := ⟨(fun z => nomatch z), fun _ => h⟩
theorem Cnd.nt {A B : Prop} (h : B) : Cnd (!true) A B := .f h
theorem Cnd.nf {A B : Prop} (h : A) : Cnd (!false) A B := .t h
theorem Cnd.of {k : Bool} {A B : Prop} (h1 : k = true → A) (h2 : k = false → B) : Cnd k A B := ⟨h1, h2⟩
theorem Cnd.yes {k : Bool} {A B : Prop} (h : k = true) (h1 : A) : Cnd k A B := by subst h; exact .t h1
theorem Cnd.no {k : Bool} {A B : Prop} (h : k = false) (h1 : B) : Cnd k A B := by subst h; exact .f h1
section
variable {α β : Type} {E : ErP} {st : Sto} {en : En}
theorem Ok.mono {o : Out α} {P P' : α → Sto → Prop} {E' : ErP} (h : Ok o P E) (f : ∀ a st, P a st → P' a st) (g : ∀ e st, E e st → E' e st) : Ok o P' E' := by
  cases o with
  | ok a st => exact f _ _ h
  | err e st => exact g _ _ h
  | bad => exact h
theorem Ok.to {o : Out α} {P P' : α → Sto → Prop} (h : Ok o P E) (f : ∀ a st, P a st → P' a st) : Ok o P' E := h.mono f fun _ _ z => z
theorem Ok.toN {o : Out α} {P P' : α → Sto → Prop} (h : Ok o P NoE) (f : ∀ a st, P a st → P' a st) : Ok o P' E := h.mono f fun _ _ z => z.elim
theorem Ok.eq {o : Out α} {P : α → Sto → Prop} (h : Ok o P NoE) : ∃ a st, o = .ok a st ∧ P a st := by
  cases o with
  | ok a st => exact ⟨a, st, rfl, h⟩
  | err e st => exact h.elim
  | bad => exact h.elim
theorem ok_of {o : Out α} {a : α} {st : Sto} {P : α → Sto → Prop} (e : o = .ok a st) (h : P a st) : Ok o P E := by rw [e]; exact h
theorem ok_mb {o : Out α} {f : α → Sto → Out β} {P : β → Sto → Prop} (h : Ok o (fun a st => Ok (f a st) P E) E) : Ok (mb o f) P E := by
  cases o with
  | ok a st => exact h
  | err e st => exact h
  | bad => exact h
theorem ok_lift {o : Option α} {P : α → Sto → Prop} (h : Lk o fun a => P a st) : Ok (lift o st) P E := by
  cases o with
  | some a => exact h
  | none => exact h
theorem sk_smb {o : Out α} {f : α → Sto → SOut} {S : SPost} (h : Ok o (fun a st => Sk (f a st) S) S.er) : Sk (smb o en f) S := by
  cases o with
  | ok a st => exact h
  | err e st => exact h
  | bad => exact h
theorem ok_if {c : Bool} {x y : Out α} {P : α → Sto → Prop} (h : Cnd c (Ok x P E) (Ok y P E)) : Ok (if c = true then x else y) P E := by
  cases c with
  | true => exact h.1 rfl
  | false => exact h.2 rfl
theorem sk_if {c : Bool} {x y : SOut} {S : SPost} (h : Cnd c (Sk x S) (Sk y S)) : Sk (if c = true then x else y) S := by
  cases c with
  | true => exact h.1 rfl
  | false => exact h.2 rfl
theorem ok_asB {d : D} {P : Bool → Sto → Prop} (h : BLk d fun k => P k st) : Ok (lift (asB d) st) P E := by
  cases d with
  | bl k => exact h
  | _ => exact h.elim
/-! ## expressions -/
section
variable {P : D → Sto → Prop} {m ma mb' mc : EM} {lm : LM} {t u : TM}
theorem ok_var {i : Nat} {d : D} (e : en[i]? = some (some d)) (h : P d st) : Ok (mVar i en st) P E := by
  unfold mVar; rw [e]; exact h
theorem ok_c {d : D} (h : P d st) : Ok (mC d en st) P E := h
theorem ok_nil {P : List D → Sto → Prop} (h : P [] st) : Ok (lNil en st) P E := h
theorem ok_cons {P : List D → Sto → Prop} (h : Ok (m en st) (fun d st => Ok (lm en st) (fun ds st => P (d :: ds) st) E) E) : Ok (lCons m lm en st) P E := ok_mb (h.to fun d st h => ok_mb (h.to fun _ _ h => h))
theorem ok_tup (h : Ok (lm en st) (fun ds st => ds.length ≤ sizeLine ∧ P (.tup ds) st) E) : Ok (mTup lm en st) P E := ok_mb (h.to fun ds st h => by
  show Ok (if small ds.length = true then _ else _) _ _
  rw [if_pos (small_iff.mpr h.1)]; exact h.2)
theorem ok_lst (h : Ok (lm en st) (fun ds st => ds.length ≤ sizeLine ∧ P (.lst ds) st) E) : Ok (mLst lm en st) P E := ok_mb (h.to fun ds st h => by
  show Ok (if small ds.length = true then _ else _) _ _
  rw [if_pos (small_iff.mpr h.1)]; exact h.2)
theorem ok_lstC (h : Ok (lm en st) (fun ds st => ds.length ≤ sizeLine ∧ P (.cell st.length) (st ++ [.lst ds])) E) : Ok (mLstC lm en st) P E := ok_mb (h.to fun ds st h => by
  show Ok (if small ds.length = true then _ else _) _ _
  rw [if_pos (small_iff.mpr h.1)]; exact h.2)
theorem ok_op {g : D → D → Sto → Option D} (h : Ok (ma en st) (fun x st => Ok (mb' en st) (fun y st => Lk (g x y st) fun d => P d st) E) E) : Ok (mOp g ma mb' en st) P E :=
  ok_mb (h.to fun x st h => ok_mb (h.to fun y st h => ok_lift h))
theorem ok_opC {g : D → D → Sto → Option D} (h : Ok (ma en st) (fun x st => Ok (mb' en st) (fun y st => Lk (g x y st) fun d => ∃ ds, d = .lst ds ∧ P (.cell st.length) (st ++ [.lst ds])) E) E) : Ok (mOpC g ma mb' en st) P E :=
  ok_mb (h.to fun x st h => ok_mb (h.to fun y st h => by
    show Ok (match g x y st with | some (.lst ds) => Out.ok (.cell st.length) (st ++ [.lst ds]) | _ => .bad) P E
    cases e : g x y st with
    | none => rw [e] at h; exact h.elim
    | some d => rw [e] at h; obtain ⟨ds, rfl, h⟩ := h; exact h))
theorem ok_un {g : D → Sto → Option D} (h : Ok (m en st) (fun x st => Lk (g x st) fun d => P d st) E) : Ok (mUn g m en st) P E := ok_mb (h.to fun x st h => ok_lift h)
theorem ok_unC {g : D → Sto → Option D} (h : Ok (m en st) (fun x st => Lk (g x st) fun d => ∃ ds, d = .lst ds ∧ P (.cell st.length) (st ++ [.lst ds])) E) : Ok (mUnC g m en st) P E := ok_mb (h.to fun x st h => by
  show Ok (match g x st with | some (.lst ds) => Out.ok (.cell st.length) (st ++ [.lst ds]) | _ => .bad) P E
  cases e : g x st with
  | none => rw [e] at h; exact h.elim
  | some d => rw [e] at h; obtain ⟨ds, rfl, h⟩ := h; exact h)
theorem ok_neg (h : Ok (m en st) (fun d st => ∃ i, d = .int i ∧ P (.int (-i)) st) E) : Ok (mNeg m en st) P E := ok_mb (h.to fun d st h => by obtain ⟨i, rfl, h⟩ := h; exact h)
theorem ok_not (h : Ok (m en st) (fun d st => BLk d fun k => P (.bl (!k)) st) E) : Ok (mNot m en st) P E := ok_mb (h.to fun d st h => ok_mb (ok_asB h))
theorem ok_and (h : Ok (ma en st) (fun d st => BLk d fun k => Cnd k (Ok (mb' en st) P E) (P (.bl false) st)) E) : Ok (mAnd ma mb' en st) P E := ok_mb (h.to fun d st h => ok_mb (ok_asB (by
  cases d with
  | bl k => exact ok_if (show Cnd k (Ok (mb' en st) P E) (P (.bl false) st) from h)
  | _ => exact h.elim)))
theorem ok_or (h : Ok (ma en st) (fun d st => BLk d fun k => Cnd k (P (.bl true) st) (Ok (mb' en st) P E)) E) : Ok (mOr ma mb' en st) P E := ok_mb (h.to fun d st h => ok_mb (ok_asB (by
  cases d with
  | bl k => exact ok_if (show Cnd k (P (.bl true) st) (Ok (mb' en st) P E) from h)
  | _ => exact h.elim)))
theorem ok_chain {g g' : D → D → Sto → Option D} (h : Ok (ma en st) (fun x st => Ok (mb' en st) (fun y st => Lk (g x y st) fun z => BLk z fun k => Cnd k (Ok (mc en st) (fun z st => Lk (g' y z st) fun d => P d st) E) (P (.bl false) st)) E) E) : Ok (mChain g g' ma mb' mc en st) P E :=
  ok_mb (h.to fun x st h => ok_mb (h.to fun y st h => ok_mb (ok_lift (by
    cases e : g x y st with
    | none => rw [e] at h; exact h.elim
    | some z =>
      rw [e] at h
      refine ok_mb (ok_asB (?_ : BLk z _))
      cases z with
      | bl k =>
        refine ok_if (E := E) ?_
        exact ⟨fun hk => ok_mb ((h.1 hk).to fun z st h => ok_lift h), fun hk => h.2 hk⟩
      | _ => exact h.elim))))
theorem ok_ite (h : Ok (t en st) (fun k st => Cnd k (Ok (ma en st) P E) (Ok (mb' en st) P E)) E) : Ok (mIf t ma mb' en st) P E := ok_mb (h.to fun k st h => ok_if h)
def GLk (o : Option (D × Sto)) (Q : D → Sto → Prop) : Prop := match o with | some (d, st) => Q d st | none => False
theorem ok_lift2 {o : Option (D × Sto)} (h : GLk o P) : Ok (lift2 o) P E := by
  cases o with
  | none => exact h
  | some z => exact h
theorem ok_blt {g : GC} (h : Ok (lm en st) (fun ds st => GLk (g ds st) P) E) : Ok (mBlt g lm en st) P E := ok_mb (h.to fun ds st h => ok_lift2 h)
theorem ok_mt {T : String} {g : GM2} (h : Ok (m en st) (fun o st => tyM T st o = true ∧ Ok (lm en st) (fun ds st => GLk (g o ds st) P) E) E) : Ok (mMt T g m lm en st) P E := ok_mb (h.to fun o st h => by
  show Ok (if tyM T st o = true then _ else _) P E
  rw [if_pos h.1]
  exact ok_mb (h.2.to fun ds st h => ok_lift2 h))
theorem ok_call {G : FM} {n : Nat} (h : Ok (lm en st) (fun ds st => ds.length = n ∧ Ok (G ds st) P E) E) : Ok (mCall G n lm en st) P E := ok_mb (h.to fun ds st h => by
  show Ok (if ds.length = n then _ else _) P E
  rw [if_pos h.1]; exact h.2)
theorem ok_oNone {P : Option Int → Sto → Prop} (h : P none st) : Ok (oNone en st) P E := h
theorem ok_oSome {P : Option Int → Sto → Prop} (h : Ok (m en st) (fun d st => ∃ i, d = .int i ∧ P (some i) st) E) : Ok (oSome m en st) P E := ok_mb (h.to fun d st h => by obtain ⟨i, rfl, h⟩ := h; exact h)
theorem ok_sl {ml mh : OM} (h : Ok (m en st) (fun d st => Ok (ml en st) (fun l st => Ok (mh en st) (fun u st => Lk (slD d l u st) fun d => P d st) E) E) E) : Ok (mSl m ml mh en st) P E :=
  ok_mb (h.to fun d st h => ok_mb (h.to fun l st h => ok_mb (h.to fun u st h => ok_lift h)))
theorem ok_repl {y z : Str} (h : Ok (m en st) (fun d st => ∃ x, d = .str x ∧ x.length + (x.length + 1) * z.length ≤ 16777216 ∧ P (.str (Txt.replace x y z)) st) E) : Ok (mRepl y z m en st) P E := ok_mb (h.to fun d st h => by
  obtain ⟨x, rfl, c, h⟩ := h
  show Ok (if x.length + (x.length + 1) * z.length ≤ 16777216 then _ else _) P E
  rw [if_pos c]; exact h)
theorem ok_dnew (h : P (.dct [] []) st) : Ok (mDnew en st) P E := h
theorem ok_dnewC (h : P (.cell st.length) (st ++ [.dct [] []])) : Ok (mDnewC en st) P E := h
/-! ## tests -/
variable {PT : Bool → Sto → Prop}
theorem ok_B (h : Ok (m en st) (fun d st => BLk d fun k => PT k st) E) : Ok (mB m en st) PT E := ok_mb (h.to fun d st h => ok_asB h)
theorem ok_tAnd (h : Ok (t en st) (fun k st => Cnd k (Ok (u en st) PT E) (PT false st)) E) : Ok (tmAnd t u en st) PT E := ok_mb (h.to fun k st h => ok_if h)
theorem ok_tOr (h : Ok (t en st) (fun k st => Cnd k (PT true st) (Ok (u en st) PT E)) E) : Ok (tmOr t u en st) PT E := ok_mb (h.to fun k st h => ok_if h)
theorem ok_tNot (h : Ok (t en st) (fun k st => PT (!k) st) E) : Ok (tmNot t en st) PT E := ok_mb h
theorem ok_tYes (h : PT true st) : Ok (tmYes en st) PT E := h
/-! ## rows -/
variable {PI : List D → Sto → Prop}
def rowD : D → Option (List D)
  | .lst ds => some ds | .tup ds => some ds | .str z => some (signs z) | _ => none
theorem ok_iAny (h : Ok (m en st) (fun d st => Lk (rowD d) fun ds => PI ds st) E) : Ok (iAny m en st) PI E := ok_mb (h.to fun d st h => by
  cases d with
  | lst ds => exact h
  | tup ds => exact h
  | str z => exact h
  | _ => exact h.elim)
theorem ok_iRng1 (h : Ok (m en st) (fun d st => ∃ j, d = .int j ∧ -(2 ^ 62) ≤ j ∧ j < 2 ^ 62 ∧ PI (rng 0 j.toNat) st) E) : Ok (iRng1 m en st) PI E := ok_mb (h.to fun d st h => by
  obtain ⟨j, rfl, h1, h2, h⟩ := h
  show Ok (if -(2 ^ 62) ≤ j ∧ j < 2 ^ 62 then _ else _) PI E
  rw [if_pos ⟨h1, h2⟩]; exact h)
theorem ok_iRng2 (h : Ok (ma en st) (fun d st => Ok (mb' en st) (fun d' st => ∃ i j, d = .int i ∧ d' = .int j ∧ (-(2 ^ 62) ≤ i ∧ i < 2 ^ 62 ∧ -(2 ^ 62) ≤ j ∧ j < 2 ^ 62) ∧ PI (rng i (j - i).toNat) st) E) E) : Ok (iRng2 ma mb' en st) PI E := ok_mb (h.to fun d st h => ok_mb (h.to fun d' st h => by
  obtain ⟨i, j, rfl, rfl, h1, h⟩ := h
  show Ok (if -(2 ^ 62) ≤ i ∧ i < 2 ^ 62 ∧ -(2 ^ 62) ≤ j ∧ j < 2 ^ 62 then _ else _) PI E
  rw [if_pos h1]; exact h))
/-! ## comprehensions: by an invariant of what is made, what is left, the store -/
theorem ok_lcLoop {gm : GM} {tm : TM} {em : EM} {I : List D → List D → Sto → Prop} {PL : List D → Sto → Prop} (hend : ∀ acc st, I acc [] st → PL acc st)
    (hstep : ∀ d ds acc st, I acc (d :: ds) st → Lk (gm d en st) fun en' => Ok (tm en' st) (fun k st => Cnd k (Ok (em en' st) (fun d' st => acc.length < sizeLine ∧ I (acc ++ [d']) ds st) NoE) (I acc ds st)) NoE) :
    ∀ (ds acc : List D) (st : Sto), I acc ds st → Ok (lcLoop gm tm em en ds acc st) PL E
  | [], acc, st, h => hend acc st h
  | d :: ds, acc, st, h => by
    have s := hstep d ds acc st h
    rw [lcLoop_cons]
    cases e1 : gm d en st with
    | none => rw [e1] at s; exact s.elim
    | some en' =>
      rw [e1] at s
      have s : Ok (tm en' st) _ NoE := s
      obtain ⟨k, st1, e2, s⟩ := s.eq
      simp only [e2]
      cases k with
      | false => exact ok_lcLoop hend hstep ds acc st1 (s.2 rfl)
      | true =>
        obtain ⟨d', st2, e3, s⟩ := (s.1 rfl).eq
        simp only [e3]
        rw [if_pos s.1]
        exact ok_lcLoop hend hstep ds (acc ++ [d']) st2 s.2
theorem ok_lc {im : IM} {gm : GM} {tm : TM} {em : EM} {vs : List Nat} (h : Ok (im en st) (fun ds st => Ok (lcLoop gm tm em (wipeEn vs en) ds [] st) (fun acc st => P (.lst acc) st) E) E) : Ok (mLc im gm tm em vs en st) P E := ok_mb (h.to fun ds st h => ok_mb h)
theorem ok_lcC {im : IM} {gm : GM} {tm : TM} {em : EM} {vs : List Nat} (h : Ok (im en st) (fun ds st => Ok (lcLoop gm tm em (wipeEn vs en) ds [] st) (fun acc st => P (.cell st.length) (st ++ [.lst acc])) E) E) : Ok (mLcC im gm tm em vs en st) P E := ok_mb (h.to fun ds st h => ok_mb h)
end
/-! ## statements -/
section
variable {nx : En → Sto → Prop} {rt : D → Sto → Prop} {bk ct : En → Sto → Prop} {er : ErP} {m ma mb' : EM} {t : TM} {sm sn : SM}
theorem sk_nil (h : nx en st) : Sk (sNil en st) ⟨nx, rt, bk, ct, er⟩ := h
theorem sk_seq (h : Sk (sm en st) ⟨fun en st => Sk (sn en st) ⟨nx, rt, bk, ct, er⟩, rt, bk, ct, er⟩) : Sk (sSeq sm sn en st) ⟨nx, rt, bk, ct, er⟩ := by
  show Sk (match sm en st with | .nx en st => sn en st | o => o) ⟨nx, rt, bk, ct, er⟩
  cases e : sm en st <;> (rw [e] at h; exact h)
theorem Sk.mono {o : SOut} {S : SPost} {nx' : En → Sto → Prop} (h : Sk o S) (f : ∀ en st, S.nx en st → nx' en st) : Sk o ⟨nx', S.rt, S.bk, S.ct, S.er⟩ := by
  cases o with
  | nx en st => exact f _ _ h
  | _ => exact h
theorem sk_cut (J : En → Sto → Prop) (h : Sk (sm en st) ⟨J, rt, bk, ct, er⟩) (h2 : ∀ en st, J en st → Sk (sn en st) ⟨nx, rt, bk, ct, er⟩) : Sk (sSeq sm sn en st) ⟨nx, rt, bk, ct, er⟩ := sk_seq (h.mono h2)
theorem sk_ite (h : Ok (t en st) (fun k st => Cnd k (Sk (sm en st) ⟨nx, rt, bk, ct, er⟩) (Sk (sn en st) ⟨nx, rt, bk, ct, er⟩)) er) : Sk (sIf t sm sn en st) ⟨nx, rt, bk, ct, er⟩ := sk_smb (h.to fun k st h => sk_if h)
theorem sk_ret (h : Ok (m en st) rt er) : Sk (sRet m en st) ⟨nx, rt, bk, ct, er⟩ := sk_smb h
theorem sk_retN (h : rt .non st) : Sk (sRetN en st) ⟨nx, rt, bk, ct, er⟩ := h
theorem sk_expr (h : Ok (m en st) (fun _ st => nx en st) er) : Sk (sExpr m en st) ⟨nx, rt, bk, ct, er⟩ := sk_smb h
theorem sk_break (h : bk en st) : Sk (sBreak en st) ⟨nx, rt, bk, ct, er⟩ := h
theorem sk_cont (h : ct en st) : Sk (sCont en st) ⟨nx, rt, bk, ct, er⟩ := h
theorem sk_set {i : Nat} (h : Ok (m en st) (fun d st => nx (en.set i (some d)) st) er) : Sk (sSet i m en st) ⟨nx, rt, bk, ct, er⟩ := sk_smb h
theorem sk_par {i j : Nat} (h : Ok (ma en st) (fun d st => Ok (mb' en st) (fun d' st => nx ((en.set i (some d)).set j (some d')) st) er) er) : Sk (sPar i j ma mb' en st) ⟨nx, rt, bk, ct, er⟩ := sk_smb (h.to fun d st h => sk_smb h)
theorem sk_asg {g : GM} (h : Ok (m en st) (fun d st => Lk (g d en st) fun en => nx en st) er) : Sk (sAsg g m en st) ⟨nx, rt, bk, ct, er⟩ := sk_smb (h.to fun d st h => by
  show Sk (match g d en st with | some en' => .nx en' st | none => .bad) ⟨nx, rt, bk, ct, er⟩
  cases e : g d en st <;> (rw [e] at h; exact h))
theorem sk_aug {i : Nat} {g : D → D → Sto → Option D} {x : D} (e : en[i]? = some (some x)) (h : Ok (m en st) (fun y st => Lk (g x y st) fun z => nx (en.set i (some z)) st) er) : Sk (sAug i g m en st) ⟨nx, rt, bk, ct, er⟩ := by
  unfold sAug
  rw [e]
  exact sk_smb (h.to fun y st h => by
    cases e2 : g x y st <;> (rw [e2] at h; exact h))
theorem sk_setIx {mo mi : EM} (h : Ok (m en st) (fun d st => Ok (mo en st) (fun o st => Ok (mi en st) (fun i st => ∃ n k ds j, o = .cell n ∧ i = .int k ∧ st[n]? = some (.lst ds) ∧ ixN ds.length k = some j ∧ nx en (st.set n (.lst (ds.set j d)))) er) er) er) : Sk (sSetIx mo mi m en st) ⟨nx, rt, bk, ct, er⟩ :=
  sk_smb (h.to fun d st h => sk_smb (h.to fun o st h => sk_smb (h.to fun i st h => by
    obtain ⟨n, k, ds, j, rfl, rfl, h1, h2, h⟩ := h
    simp only [h1, h2]
    exact h)))
theorem sk_star {k : Nat} {gs : List GM} (h : Ok (m en st) (fun d st => ∃ ds, d = .tup ds ∧ k ≤ ds.length ∧ Lk (gmAll gs (ds.take k ++ [.lst (ds.drop k)]) en st) fun en => nx en st) er) : Sk (sStar k gs m en st) ⟨nx, rt, bk, ct, er⟩ := sk_smb (h.to fun d st h => by
  obtain ⟨ds, rfl, h1, h⟩ := h
  show Sk (if k ≤ ds.length then (match gmAll gs (ds.take k ++ [.lst (ds.drop k)]) en st with | some en' => .nx en' st | none => .bad) else .bad) ⟨nx, rt, bk, ct, er⟩
  rw [if_pos h1]
  cases e : gmAll gs (ds.take k ++ [.lst (ds.drop k)]) en st <;> (rw [e] at h; exact h))
theorem sk_forLoop {S : SPost} {g : GM} {body : SM} {I : List D → En → Sto → Prop} (hend : ∀ en st, I [] en st → S.nx en st)
    (hstep : ∀ d ds en st, I (d :: ds) en st → Lk (g d en st) fun en' => Sk (body en' st) ⟨I ds, S.rt, S.nx, I ds, S.er⟩) : ∀ (ds : List D) (en : En) (st : Sto), I ds en st → Sk (forLoop g body ds en st) S
  | [], en, st, h => hend en st h
  | d :: ds, en, st, h => by
    have s := hstep d ds en st h
    show Sk (match g d en st with | none => .bad | some en' => match body en' st with
      | .nx en'' st'' => forLoop g body ds en'' st''
      | .ct en'' st'' => forLoop g body ds en'' st''
      | .bk en'' st'' => .nx en'' st''
      | o => o) S
    cases e1 : g d en st with
    | none => rw [e1] at s; exact s.elim
    | some en' =>
      rw [e1] at s
      have s : Sk (body en' st) ⟨I ds, S.rt, S.nx, I ds, S.er⟩ := s
      show Sk (match body en' st with
        | .nx en'' st'' => forLoop g body ds en'' st''
        | .ct en'' st'' => forLoop g body ds en'' st''
        | .bk en'' st'' => .nx en'' st''
        | o => o) S
      cases e2 : body en' st with
      | nx en2 st2 => rw [e2] at s; exact sk_forLoop hend hstep ds en2 st2 s
      | ct en2 st2 => rw [e2] at s; exact sk_forLoop hend hstep ds en2 st2 s
      | bk en2 st2 => rw [e2] at s; exact s
      | rt d st2 => rw [e2] at s; exact s
      | err x en2 st2 => rw [e2] at s; exact s
      | bad => rw [e2] at s; exact s
theorem sk_for {im : IM} {g : GM} {body : SM} (h : Ok (im en st) (fun ds st => Sk (forLoop g body ds en st) ⟨nx, rt, bk, ct, er⟩) er) : Sk (sFor im g body en st) ⟨nx, rt, bk, ct, er⟩ := sk_smb h
theorem ok_fn {N : Nat} {body : SM} {ds : List D} {en : En} {P : D → Sto → Prop} (e : ds.map some ++ List.replicate (N - ds.length) none = en) (h : Sk (body en st) ⟨fun _ st => P .non st, P, fun _ _ => False, fun _ _ => False, E⟩) : Ok (fnM N body ds st) P E := by
  subst e
  unfold fnM
  cases e1 : body (ds.map some ++ List.replicate (N - ds.length) none) st <;> (rw [e1] at h; exact h)
end
/-! ## what the operations are on data of known kind -/
section
variable {Q : D → Prop}
theorem lk_add_int {i j : Int} (h : Q (.int (i + j))) : Lk (addD (.int i) (.int j) st) Q := h
theorem lk_add_str {x y : Str} (h1 : x.length + y.length ≤ sizeLine) (h : Q (.str (x ++ y))) : Lk (addD (.str x) (.str y) st) Q := by
  show Lk (if small (x.length + y.length) = true then some (D.str (x ++ y)) else none) Q
  rw [if_pos (small_iff.mpr h1)]; exact h
theorem lk_add_tup {x y : List D} (h1 : x.length + y.length ≤ sizeLine) (h : Q (.tup (x ++ y))) : Lk (addD (.tup x) (.tup y) st) Q := by
  show Lk (if small (x.length + y.length) = true then some (D.tup (x ++ y)) else none) Q
  rw [if_pos (small_iff.mpr h1)]; exact h
theorem lk_add_lst {x y : List D} (h1 : x.length + y.length ≤ sizeLine) (h : Q (.lst (x ++ y))) : Lk (addD (.lst x) (.lst y) st) Q := by
  show Lk (if small (x.length + y.length) = true then some (D.lst (x ++ y)) else none) Q
  rw [if_pos (small_iff.mpr h1)]; exact h
theorem lk_cat_lst {x y : List D} (h1 : x.length + y.length ≤ sizeLine) (h : Q (.lst (x ++ y))) : Lk (catD (.lst x) (.lst y) st) Q := by
  show Lk (if small (x.length + y.length) = true then some (D.lst (x ++ y)) else none) Q
  rw [if_pos (small_iff.mpr h1)]; exact h
theorem lk_sub_int {i j : Int} (h : Q (.int (i - j))) : Lk (subD (.int i) (.int j) st) Q := h
theorem lk_mul_int {i j : Int} (h1 : i.natAbs.log2 + j.natAbs.log2 < 1000000) (h : Q (.int (i * j))) : Lk (mulD (.int i) (.int j) st) Q := by
  show Lk (if i.natAbs.log2 + j.natAbs.log2 < 1000000 then some (D.int (i * j)) else none) Q
  rw [if_pos h1]; exact h
theorem log2_small {i : Int} (h1 : -(10 ^ 40) ≤ i) (h2 : i ≤ 10 ^ 40) : i.natAbs.log2 < 200 := by
  have h : i.natAbs < 2 ^ 200 := by
    have : (10 : Nat) ^ 40 < 2 ^ 200 := by decide
    omega
  by_cases z : i.natAbs = 0
  · rw [z]; decide
  · exact (Nat.log2_lt z).mpr h
theorem lk_mul_small {i j : Int} (h1 : -(10 ^ 40) ≤ i) (h2 : i ≤ 10 ^ 40) (h3 : -(10 ^ 40) ≤ j) (h4 : j ≤ 10 ^ 40) (h : Q (.int (i * j))) : Lk (mulD (.int i) (.int j) st) Q :=
  lk_mul_int (by have := log2_small h1 h2; have := log2_small h3 h4; omega) h
theorem lk_fdiv {i j : Int} (h0 : 0 < j) (h1 : j.natAbs.log2 < 9000) (h : Q (.int (i / j))) : Lk (fdivD (.int i) (.int j) st) Q := by
  show Lk (if 0 < j ∧ j.natAbs.log2 < 9000 then some (D.int (i / j)) else none) Q
  rw [if_pos ⟨h0, h1⟩]; exact h
theorem lk_mod {i j : Int} (h0 : 0 < j) (h : Q (.int (i % j))) : Lk (modD (.int i) (.int j) st) Q := by
  show Lk (if 0 < j then some (D.int (i % j)) else none) Q
  rw [if_pos h0]; exact h
theorem lk_pow {i j : Int} (h0 : 0 ≤ j ∧ j ≤ 1000000 ∧ i.natAbs < 2 ^ 64) (h : Q (.int (i ^ j.toNat))) : Lk (powD (.int i) (.int j) st) Q := by
  show Lk (if 0 ≤ j ∧ j ≤ 1000000 ∧ i.natAbs < 2 ^ 64 then some (D.int (i ^ j.toNat)) else none) Q
  rw [if_pos h0]; exact h
theorem lk_lt_int {i j : Int} (h : Q (.bl (decide (i < j)))) : Lk (ltD (.int i) (.int j) st) Q := h
theorem lk_le_int {i j : Int} (h : Q (.bl (decide (i ≤ j)))) : Lk (leD (.int i) (.int j) st) Q := h
theorem lk_gt_int {i j : Int} (h : Q (.bl (decide (j < i)))) : Lk (gtD (.int i) (.int j) st) Q := h
theorem lk_ge_int {i j : Int} (h : Q (.bl (decide (j ≤ i)))) : Lk (geD (.int i) (.int j) st) Q := h
theorem lk_le_str {x y : Str} (h : Q (.bl (!decide (y.cps.toList < x.cps.toList)))) : Lk (leD (.str x) (.str y) st) Q := h
theorem lk_some {α : Type} {o : Option α} {a : α} {Q : α → Prop} (e : o = some a) (h : Q a) : Lk o Q := by rw [e]; exact h
theorem blk_bl {k : Bool} {Q : Bool → Prop} (h : Q k) : BLk (.bl k) Q := h
theorem glk_some {o : Option (D × Sto)} {d : D} {st : Sto} {Q : D → Sto → Prop} (e : o = some (d, st)) (h : Q d st) : GLk o Q := by rw [e]; exact h
end
end
end Pd

namespace Pd
open PySem PySem.Spec L2
open PyProof.Rows hiding St
local instance dCPe1 : Codes := ⟨fun _ _ _ _ => .ext fun _ => True, fun _ _ _ _ => ⟨_, rfl⟩, fun _ => "", fun _ => [], []⟩
def iL (ns : List Int) : List D := ns.map .int
theorem iL_len (ns : List Int) : (iL ns).length = ns.length := List.length_map _
theorem intsD_iL : ∀ ns : List Int, intsD (iL ns) = some ns
  | [] => rfl
  | n :: ns => by
    show (intsD (iL ns)).map (n :: ·) = _
    rw [intsD_iL ns]; rfl
theorem cutD_hi (ds : List D) (n : Nat) : cutD ds none (some (n : Int)) = ds.take n := by
  unfold cutD
  rw [HT.sIx_none, HT.sIx_nat, List.drop_zero, Nat.sub_zero]
  rcases Nat.le_total n ds.length with h | h
  · rw [Nat.min_eq_left h]
  · rw [Nat.min_eq_right h, List.take_of_length_le (Nat.le_refl _), List.take_of_length_le h]
theorem cutD_lo (ds : List D) (n : Nat) : cutD ds (some (n : Int)) none = ds.drop n := by
  unfold cutD
  rw [HT.sIx_none, HT.sIx_nat]
  rcases Nat.le_total n ds.length with h | h
  · rw [Nat.min_eq_left h, List.take_of_length_le (by rw [List.length_drop]; exact Nat.le_refl _)]
  · rw [Nat.min_eq_right h, Nat.sub_self, List.take_zero, List.drop_of_length_le h]
theorem cutD_sub (ds : List D) (lo hi : Option Int) : ∀ d ∈ cutD ds lo hi, d ∈ ds := fun d h => List.mem_of_mem_drop (List.mem_of_mem_take h)
theorem cutD_len (ds : List D) (lo hi : Option Int) : (cutD ds lo hi).length ≤ ds.length := by
  unfold cutD; rw [List.length_take, List.length_drop]; omega
theorem cutD_map {f : Int → D} (ns : List Int) (lo hi : Option Int) : ∃ ms : List Int, cutD (ns.map f) lo hi = ms.map f := ⟨_, by unfold cutD; rw [← List.map_drop, ← List.map_take]⟩
theorem atI_mem {α : Type} {xs : List α} {i : Int} (h0 : 0 ≤ i) (h1 : i < xs.length) : ∃ x, L2.atI xs i = some x ∧ x ∈ xs ∧ xs[i.toNat]? = some x := by
  have hk : i.toNat < xs.length := by omega
  have e : ((i.toNat : Nat) : Int) = i := by omega
  have q := atI_nat (List.getElem?_eq_getElem hk)
  rw [e] at q
  exact ⟨xs[i.toNat], q, List.getElem_mem hk, List.getElem?_eq_getElem hk⟩
section
variable {st : Sto} {Q : D → Prop} {E : ErP}
theorem lk_mod_gen {i j : Int} (h0 : 0 < j) (h : ∀ r : Int, 0 ≤ r → r < j → Q (.int r)) : Lk (modD (.int i) (.int j) st) Q := lk_mod h0 (h _ (Int.emod_nonneg _ (by omega)) (Int.emod_lt_of_pos _ h0))
/-- an item of a list that is made there and then -/
theorem lk_ix_lst {ds : List D} {i : Int} (h0 : 0 ≤ i) (h1 : i < ds.length) (h : ∀ d, d ∈ ds → ds[i.toNat]? = some d → Q d) : Lk (ixD (.lst ds) (.int i) st) Q := by
  obtain ⟨x, e, h2, h3⟩ := atI_mem h0 h1
  exact lk_some (a := x) (by show (some ds).bind (fun ds => L2.atI ds i) = _; exact e) (h x h2 h3)
theorem lk_ix_tup {ds : List D} {i : Int} (h0 : 0 ≤ i) (h1 : i < ds.length) (h : ∀ d, d ∈ ds → ds[i.toNat]? = some d → Q d) : Lk (ixD (.tup ds) (.int i) st) Q := by
  obtain ⟨x, e, h2, h3⟩ := atI_mem h0 h1
  exact lk_some (a := x) (by show (some ds).bind (fun ds => L2.atI ds i) = _; exact e) (h x h2 h3)
theorem lk_ix_cell {n : Nat} {ds : List D} {i : Int} (e : st[n]? = some (.lst ds)) (h0 : 0 ≤ i) (h1 : i < ds.length) (h : ∀ d, d ∈ ds → ds[i.toNat]? = some d → Q d) : Lk (ixD (.cell n) (.int i) st) Q := by
  obtain ⟨x, e2, h2, h3⟩ := atI_mem h0 h1
  refine lk_some (a := x) ?_ (h x h2 h3)
  show (match deref st (.cell n) with | .lst ds => some ds | .tup ds => some ds | _ => none).bind (fun ds => L2.atI ds i) = _
  rw [deref_cell, e]
  exact e2
theorem lk_ix_str {z : Str} {i : Int} (hz : z.length ≤ sizeLine) (h0 : 0 ≤ i) (h1 : i < z.length) (h : ∀ c, c ∈ z.cps.toList → z.cps.toList[i.toNat]? = some c → Q (.str ⟨#[c]⟩)) : Lk (ixD (.str z) (.int i) st) Q := by
  obtain ⟨x, e, h2, h3⟩ := atI_mem (xs := z.cps.toList) h0 (by simpa [Str.length] using h1)
  refine lk_some (a := .str ⟨#[x]⟩) ?_ (h x h2 h3)
  show (if small z.length = true then (L2.atI z.cps.toList i).map fun c => D.str ⟨#[c]⟩ else none) = _
  rw [if_pos (small_iff.mpr hz), e]; rfl
theorem lk_ixt {ds : List D} {i : Int} {a : D} (e : L2.atI ds i = some a) (h : Q a) : Lk (ixD (.tup ds) (.int i) st) Q := lk_some (a := a) (by show (some ds).bind (fun ds => L2.atI ds i) = _; exact e) h
theorem lk_ixl {ds : List D} {i : Int} {a : D} (e : L2.atI ds i = some a) (h : Q a) : Lk (ixD (.lst ds) (.int i) st) Q := lk_some (a := a) (by show (some ds).bind (fun ds => L2.atI ds i) = _; exact e) h
theorem glk_len_lst {ds : List D} {Q : D → Sto → Prop} (h : Q (.int ds.length) st) : GLk (lenG [.lst ds] st) Q := h
theorem glk_len_tup {ds : List D} {Q : D → Sto → Prop} (h : Q (.int ds.length) st) : GLk (lenG [.tup ds] st) Q := h
theorem glk_len_str {z : Str} {Q : D → Sto → Prop} (hz : z.length ≤ sizeLine) (h : Q (.int z.length) st) : GLk (lenG [.str z] st) Q := by
  refine glk_some (d := .int z.length) (st := st) ?_ h
  have e : lenB (.str z) st = some z.length := if_pos (small_iff.mpr hz)
  unfold lenG
  simp only [e]
  rfl
theorem glk_sum {ms : List Int} {Q : D → Sto → Prop} (h : Q (.int ms.sum) st) : GLk (sumG [.lst (iL ms)] st) Q := by
  refine glk_some (d := .int ms.sum) (st := st) ?_ h
  show ((lstB st (.lst (iL ms))).bind intsD).map _ = _
  have e : lstB st (.lst (iL ms)) = some (iL ms) := rfl
  rw [e]
  show (intsD (iL ms)).map _ = _
  rw [intsD_iL]; rfl
theorem le_line {n : Nat} (h : n ≤ 16777216) : n ≤ sizeLine := by rw [sizeLine_eq]; exact h
/-! ## the deck -/
theorem ix_cell {n : Nat} {ds : List D} {i : Int} {d : D} (e : st[n]? = some (.lst ds)) (h : L2.atI ds i = some d) : ixD (.cell n) (.int i) st = some d := by
  show (match deref st (.cell n) with | .lst ds => some ds | .tup ds => some ds | _ => none).bind (fun ds => L2.atI ds i) = _
  rw [deref_cell, e]
  exact h
theorem get_set {n : Nat} {c c' : Cel} (h : st[n]? = some c) : (st.set n c')[n]? = some c' := List.getElem?_set_self (List.getElem?_eq_some_iff.mp h).1
theorem get_ne {n j : Nat} {c' : Cel} {o : Option Cel} (h : st[j]? = o) (e : n ≠ j) : (st.set n c')[j]? = o := by rw [List.getElem?_set_ne e]; exact h
theorem get_app {n : Nat} {c : Cel} {cs : List Cel} (h : st[n]? = some c) : (st ++ cs)[n]? = some c := by
  rw [List.getElem?_append_left (List.getElem?_eq_some_iff.mp h).1]; exact h
theorem get_new {c : Cel} : (st ++ [c])[st.length]? = some c := by simp
/-- what lies beside n and m stays -/
def Fr (n m : Nat) (st st' : Sto) : Prop := ∀ j c, j ≠ n → j ≠ m → st[j]? = some c → st'[j]? = some c
theorem Fr.refl (n m : Nat) (st : Sto) : Fr n m st st := fun _ _ _ _ h => h
theorem Fr.trans {n m : Nat} {st st1 st2 : Sto} (a : Fr n m st st1) (b : Fr n m st1 st2) : Fr n m st st2 := fun j c h1 h2 h => b j c h1 h2 (a j c h1 h2 h)
theorem Fr.app {n m : Nat} {st : Sto} (cs : List Cel) : Fr n m st (st ++ cs) := fun _ _ _ _ h => get_app h
theorem Fr.set1 {n m : Nat} {st : Sto} (c : Cel) : Fr n m st (st.set n c) := fun j _ h1 _ h => get_ne h (Ne.symm h1)
theorem Fr.set2 {n m : Nat} {st : Sto} (c : Cel) : Fr n m st (st.set m c) := fun j _ _ h2 h => get_ne h (Ne.symm h2)
/-- the deck stands at n, its cells at m, so many turns at most -/
structure Dk (st : Sto) (n m : Nat) (t : Int) : Prop where
  ex : ∃ (ns : List Int) (s u : Int), n ≠ m ∧ st[n]? = some (.lst [.cell m, .int s, .int u]) ∧ st[m]? = some (.lst (iL ns)) ∧ ns.length ≤ 63 ∧ 0 ≤ u ∧ u ≤ t
theorem Dk.more {n m : Nat} {t t' : Int} (h : Dk st n m t) (e : t ≤ t') : Dk st n m t' := by
  obtain ⟨ns, s, u, h1, h2, h3, h0, h4, h5⟩ := h
  exact ⟨ns, s, u, h1, h2, h3, h0, h4, Int.le_trans h5 e⟩
theorem Dk.keep {n m : Nat} {t : Int} {st' : Sto} (h : Dk st n m t) (hn : st'[n]? = st[n]?) (hm : st'[m]? = st[m]?) : Dk st' n m t := by
  obtain ⟨ns, s, u, h1, h2, h3, h0⟩ := h
  exact ⟨ns, s, u, h1, hn.trans h2, hm.trans h3, h0⟩
theorem Dk.app {n m : Nat} {t : Int} (h : Dk st n m t) (cs : List Cel) : Dk (st ++ cs) n m t := by
  obtain ⟨ns, s, u, h1, h2, h3, h0⟩ := h
  exact ⟨ns, s, u, h1, get_app h2, get_app h3, h0⟩
theorem Dk.set {n m j : Nat} {t : Int} (h : Dk st n m t) (c : Cel) (h1 : j ≠ n) (h2 : j ≠ m) : Dk (st.set j c) n m t :=
  h.keep (get_ne rfl h1) (get_ne rfl h2)
theorem sum_loop {gm : GM} {em : EM} {en : En} {st : Sto} {E : ErP} {PL : List D → Sto → Prop} (hg : ∀ d en st, gm d en st = some (en.set 2 (some d))) (hem : ∀ (i : Int) st, ∃ j : Int, em (en.set 2 (some (.int i))) st = .ok (.int j) st) {ns : List Int} (hl : ns.length ≤ 63)
    (hP : ∀ ms : List Int, PL (iL ms) st) : Ok (lcLoop gm tmYes em en (iL ns) [] st) PL E := by
  refine ok_lcLoop (I := fun acc rest st' => st' = st ∧ ∃ as rs : List Int, acc = iL as ∧ rest = iL rs ∧ as.length + rs.length ≤ 63) (fun acc st' h => ?_) (fun d ds acc st' h => ?_) _ _ _ ⟨rfl, [], ns, rfl, rfl, by simpa using hl⟩
  · obtain ⟨rfl, as, rs, rfl, _, _⟩ := h
    exact hP as
  · obtain ⟨rfl, as, rs, rfl, h2, h3⟩ := h
    cases rs with
    | nil => cases h2
    | cons r rs =>
      cases h2
      rw [hg]
      obtain ⟨j, e⟩ := hem r st'
      refine lk_some rfl ?_
      refine ok_tYes ?_
      refine Cnd.t ?_
      refine ok_of e ?_
      refine ⟨?_, rfl, as ++ [j], rs, ?_, rfl, ?_⟩
      · rw [iL_len]
        rw [List.length_cons] at h3
        exact Nat.lt_of_lt_of_le (by omega) (by decide : 63 ≤ sizeLine)
      · unfold iL; rw [List.map_append]; rfl
      · rw [List.length_append, List.length_singleton]; rw [List.length_cons] at h3; omega
end
end Pd

namespace Pd
open PySem PySem.Spec L2
open PyProof.Rows hiding St
local instance dCPf0 : Codes := ⟨fun _ _ _ _ => .ext fun _ => True, fun _ _ _ _ => ⟨_, rfl⟩, fun _ => "", fun _ => [], []⟩
abbrev cs (x : Str) : List Nat := x.cps.toList
def lett (c : Nat) : Bool := decide (97 ≤ c) && decide (c ≤ 122)
def fig (c : Nat) : Bool := decide (48 ≤ c) && decide (c ≤ 57)
def isNm (x : Str) : Bool := decide (1 ≤ x.length) && decide (x.length ≤ 8) && (cs x).all lett
def figs (x : Str) : Bool := decide (1 ≤ x.length) && decide (x.length ≤ 40) && (cs x).all fig && decide ((cs x)[0]? ≠ some 48)
def isFarS (x : Str) : Bool := match Txt.split x "." with
  | [a, b, c] => isNm a && isNm c && figs b
  | _ => false
theorem cs_len (x : Str) : (cs x).length = x.length := by simp [cs, Str.length]
theorem cs_app (x y : Str) : cs (x ++ y) = cs x ++ cs y := by show (x.cps ++ y.cps).toList = _; simp [cs]
theorem len_app (x y : Str) : (x ++ y).length = x.length + y.length := by rw [← cs_len, cs_app, List.length_append, cs_len, cs_len]
theorem str_eq {x y : Str} (h : cs x = cs y) : x = y := by
  cases x; cases y
  simp only [cs] at h
  congr 1
  exact Array.toList_inj.mp h
theorem letters_cs : cs (Str.ofString "abcdefghijklmnopqrstuvwxyz") = (List.range 26).map (97 + ·) := by decide +kernel
theorem figures_cs : cs (Str.ofString "0123456789") = (List.range 10).map (48 + ·) := by decide +kernel
theorem in_letters (c : Nat) : (!(Builtin.Str.occurrences (Str.ofString "abcdefghijklmnopqrstuvwxyz") ⟨#[c]⟩ 0 (Str.ofString "abcdefghijklmnopqrstuvwxyz").length 1).isEmpty) = lett c := by
  rw [StrLaws.found_one]
  have e : c ∈ (Str.ofString "abcdefghijklmnopqrstuvwxyz").cps.toList ↔ (97 ≤ c ∧ c ≤ 122) := by
    show c ∈ cs _ ↔ _
    rw [letters_cs, List.mem_map]
    constructor
    · rintro ⟨i, hi, rfl⟩
      have := List.mem_range.mp hi
      omega
    · intro h
      exact ⟨c - 97, List.mem_range.mpr (by omega), by omega⟩
  unfold lett
  rw [← Bool.decide_and]
  exact decide_eq_decide.mpr e
theorem in_figures (c : Nat) : (!(Builtin.Str.occurrences (Str.ofString "0123456789") ⟨#[c]⟩ 0 (Str.ofString "0123456789").length 1).isEmpty) = fig c := by
  rw [StrLaws.found_one]
  have e : c ∈ (Str.ofString "0123456789").cps.toList ↔ (48 ≤ c ∧ c ≤ 57) := by
    show c ∈ cs _ ↔ _
    rw [figures_cs, List.mem_map]
    constructor
    · rintro ⟨i, hi, rfl⟩
      have := List.mem_range.mp hi
      omega
    · intro h
      exact ⟨c - 48, List.mem_range.mpr (by omega), by omega⟩
  unfold fig
  rw [← Bool.decide_and]
  exact decide_eq_decide.mpr e
theorem one_lt (a b : Nat) : decide ([a] < [b]) = decide (a < b) := by
  refine decide_eq_decide.mpr ⟨fun h => ?_, fun h => ?_⟩
  · cases h with
    | rel h => exact h
    | cons h => cases h
  · exact .rel h
theorem az (c : Nat) : ((!decide (([c] : List Nat) < cs (Str.ofString "a"))) && (!decide (cs (Str.ofString "z") < [c]))) = lett c := by
  have e1 : cs (Str.ofString "a") = [97] := by decide +kernel
  have e2 : cs (Str.ofString "z") = [122] := by decide +kernel
  rw [e1, e2, one_lt, one_lt]
  unfold lett
  by_cases h1 : 97 ≤ c <;> by_cases h2 : c ≤ 122 <;> simp [h1, h2] <;> omega
/-! ## a far name that is written so is one -/
theorem cut_one {a b : List Nat} {p q : List Nat} {c : Nat} (h : a ++ c :: p = b ++ c :: q) (ha : c ∉ a) (hb : c ∉ b) : a = b ∧ p = q := by
  induction a generalizing b with
  | nil =>
    cases b with
    | nil => simp at h; exact ⟨rfl, h⟩
    | cons y b =>
      simp at h
      exact absurd (by rw [h.1]; exact .head _) hb
  | cons x a ih =>
    cases b with
    | nil =>
      simp at h
      exact absurd (by rw [h.1]; exact .head _) ha
    | cons y b =>
      simp at h
      obtain ⟨h1, h2⟩ := h
      obtain ⟨h3, h4⟩ := ih h2 (fun z => ha (.tail _ z)) (fun z => hb (.tail _ z))
      exact ⟨by rw [h1, h3], h4⟩
theorem dot_cs : cs (Str.ofString ".") = [46] := by decide +kernel
theorem dot_is : Str.ofString "." = ⟨#[46]⟩ := by decide +kernel
theorem split3 {a b c : Str} (ha : 46 ∉ cs a) (hb : 46 ∉ cs b) (hc : 46 ∉ cs c) : Txt.split (a ++ Str.ofString "." ++ b ++ Str.ofString "." ++ c) (Str.ofString ".") = [a, b, c] := by
  have ej := StrLaws.join_split (a ++ Str.ofString "." ++ b ++ Str.ofString "." ++ c) (Str.ofString ".")
  have ef := StrLaws.split_free (a ++ Str.ofString "." ++ b ++ Str.ofString "." ++ c) 46
  have el := PyProof.Rows.split_len (a ++ Str.ofString "." ++ b ++ Str.ofString "." ++ c) 46
  rw [← dot_is] at ef el
  have ec : PyProof.Rows.cnt 46 (a ++ Str.ofString "." ++ b ++ Str.ofString "." ++ c).cps.toList = 2 := by
    show PyProof.Rows.cnt 46 (cs _) = 2
    rw [cs_app, cs_app, cs_app, cs_app, dot_cs]
    rw [PyProof.Rows.cnt_append, PyProof.Rows.cnt_append, PyProof.Rows.cnt_append, PyProof.Rows.cnt_append]
    rw [PyProof.Rows.cnt_none 46 _ ha, PyProof.Rows.cnt_none 46 _ hb, PyProof.Rows.cnt_none 46 _ hc, PyProof.Rows.cnt_cons, PyProof.Rows.cnt_nil]
    rfl
  rw [ec] at el
  have el : (Txt.split (a ++ Str.ofString "." ++ b ++ Str.ofString "." ++ c) (Str.ofString ".")).length = 3 := by omega
  generalize Txt.split (a ++ Str.ofString "." ++ b ++ Str.ofString "." ++ c) (Str.ofString ".") = l at ej ef el
  match l, el with
  | [p, q, r], _ =>
    have hp : 46 ∉ cs p := ef p (by simp)
    have hq : 46 ∉ cs q := ef q (by simp)
    have e : cs p ++ 46 :: (cs q ++ 46 :: cs r) = cs a ++ 46 :: (cs b ++ 46 :: cs c) := by
      have := congrArg cs ej
      have e1 : Str.join (Str.ofString ".") [p, q, r] = p ++ Str.ofString "." ++ (q ++ Str.ofString "." ++ r) := rfl
      rw [e1] at this
      rw [cs_app, cs_app, cs_app, cs_app, cs_app, cs_app, cs_app, cs_app, dot_cs] at this
      simpa using this
    obtain ⟨e1, e2⟩ := cut_one e hp ha
    obtain ⟨e3, e4⟩ := cut_one e2 hq hb
    rw [str_eq e1, str_eq e3, str_eq e4]
theorem nm_dotless {x : Str} (h : isNm x = true) : 46 ∉ cs x := fun z => by
  unfold isNm at h
  rw [Bool.and_eq_true] at h
  have := List.all_eq_true.mp h.2 46 z
  exact absurd this (by decide)
theorem head_digit : ∀ n : Nat, 1 ≤ n → (Nat.toDigits 10 n)[0]? ≠ some '0' ∧ Nat.toDigits 10 n ≠ []
  | n, h => by
    by_cases hn : n < 10
    · rw [Nat.toDigits_of_lt_base hn]
      refine ⟨?_, by simp⟩
      have : n = 1 ∨ n = 2 ∨ n = 3 ∨ n = 4 ∨ n = 5 ∨ n = 6 ∨ n = 7 ∨ n = 8 ∨ n = 9 := by omega
      rcases this with rfl | rfl | rfl | rfl | rfl | rfl | rfl | rfl | rfl <;> decide
    · rw [Nat.toDigits_of_base_le (by decide) (by omega)]
      have ih := head_digit (n / 10) (by omega)
      refine ⟨?_, by simp⟩
      cases e : Nat.toDigits 10 (n / 10) with
      | nil => exact absurd e ih.2
      | cons c r =>
        rw [e] at ih
        exact ih.1
theorem text_cs {i : Int} (h0 : 0 ≤ i) : cs (Str.ofString (toString i)) = (Nat.toDigits 10 i.toNat).map Char.toNat := by
  show (Str.ofString (toString i)).cps.toList = _
  rw [PyProof.Rows.signs_ofString, Int.toString_eq_repr, Int.repr_eq_if, if_pos h0, Nat.toList_repr]
theorem figs_text {i : Int} (h0 : 1 ≤ i) (h1 : i ≤ 10 ^ 39) : figs (Str.ofString (toString i)) = true := by
  have e := text_cs (i := i) (by omega)
  have hd := head_digit i.toNat (by omega)
  have hl : (Nat.toDigits 10 i.toNat).length ≤ 40 := PyProof.Rows.digits10_le (by decide) (by
    have : (10 : Int) ^ 39 < 10 ^ 40 := by decide
    omega)
  have hlen : (Str.ofString (toString i)).length = (Nat.toDigits 10 i.toNat).length := by rw [← cs_len, e, List.length_map]
  have hne : 1 ≤ (Nat.toDigits 10 i.toNat).length := List.length_pos_iff.mpr hd.2
  unfold figs
  rw [e, hlen]
  simp only [Bool.and_eq_true, decide_eq_true_eq, List.all_eq_true]
  refine ⟨⟨⟨hne, hl⟩, fun c hc => ?_⟩, fun z => ?_⟩
  · obtain ⟨ch, hm, rfl⟩ := List.mem_map.mp hc
    have := PyProof.Rows.digit_range (Nat.isDigit_of_mem_toDigits (by decide) (by decide) hm)
    unfold fig
    simp only [Bool.and_eq_true, decide_eq_true_eq]
    exact this
  · rw [List.getElem?_map] at z
    obtain ⟨ch, h2, h3⟩ := Option.map_eq_some_iff.mp z
    have : ch = '0' := by
      apply Char.ext
      apply UInt32.toNat_inj.mp
      exact h3
    rw [this] at h2
    exact hd.1 h2
theorem far_good {a b : Str} {i : Int} (ha : isNm a = true) (hb : isNm b = true) (h0 : 1 ≤ i) (h1 : i ≤ 10 ^ 39) : isFarS (a ++ Str.ofString "." ++ Str.ofString (toString i) ++ Str.ofString "." ++ b) = true := by
  have hd : figs (Str.ofString (toString i)) = true := figs_text h0 h1
  have hn : 46 ∉ cs (Str.ofString (toString i)) := PyProof.Rows.int_text_free' 46 (by decide) i
  unfold isFarS
  show (match Txt.split _ (Str.ofString ".") with | [a, b, c] => isNm a && isNm c && figs b | _ => false) = true
  rw [split3 (nm_dotless ha) hn (nm_dotless hb)]
  show (isNm a && isNm b && figs (Str.ofString (toString i))) = true
  rw [ha, hb, hd]; rfl

mutual
/-- data that the law makes: small, of ascii -/
def gd : D → Bool
  | .non | .bl _ => true
  | .int i => decide (i.natAbs.log2 < 1900)
  | .str x => decide (x.length ≤ 1000000) && (cs x).all fun c => decide (c < 128)
  | .tup ds | .lst ds => decide (ds.length ≤ 100000) && gdL ds
  | .dct ks ds => decide (ks.length = ds.length) && decide (ks = [.inl 0] ∨ ks = []) && gdL ds
  | .cell _ | .glob _ | .scr _ | .exc _ _ _ => false
def gdL : List D → Bool
  | [] => true
  | d :: ds => gd d && gdL ds
end
theorem gdL_mem : ∀ {ds : List D}, gdL ds = true → ∀ d ∈ ds, gd d = true
  | d :: ds, h, e, he => by
    unfold gdL at h
    rw [Bool.and_eq_true] at h
    cases he with
    | head => exact h.1
    | tail _ he => exact gdL_mem h.2 e he
theorem gdL_of : ∀ {ds : List D}, (∀ d ∈ ds, gd d = true) → gdL ds = true
  | [], _ => rfl
  | d :: ds, h => by
    unfold gdL
    rw [Bool.and_eq_true]
    exact ⟨h d (.head _), gdL_of fun e he => h e (.tail _ he)⟩
def isS : D → Bool | .str _ => true | _ => false
def isI : D → Bool | .int _ => true | .bl _ => true | _ => false
def isBo : D → Bool | .bl _ => true | _ => false
def isTu : D → Bool | .tup _ => true | _ => false
section
variable {st : Sto} {Q : D → Prop}
theorem lk_isi {T : String} {d : D} {t : String} {b : Bool} (e : tyN st d = some t) (k : kitB t T = some b) (h : Q (.bl b)) : Lk (isiB T d st) Q := by
  unfold isiB
  rw [e]
  show Lk ((kitB t T).map .bl) Q
  rw [k]; exact h
theorem lk_isi_str {d : D} (g : gd d = true) (h : Q (.bl (isS d))) : Lk (isiB "str" d st) Q := by
  cases d with
  | non => exact lk_isi rfl (show kitB "NoneType" "str" = some false by decide +kernel) h
  | bl b => exact lk_isi rfl (show kitB "bool" "str" = some false by decide +kernel) h
  | int b => exact lk_isi rfl (show kitB "int" "str" = some false by decide +kernel) h
  | str b => exact lk_isi rfl (show kitB "str" "str" = some true by decide +kernel) h
  | tup b => exact lk_isi rfl (show kitB "tuple" "str" = some false by decide +kernel) h
  | lst b => exact lk_isi rfl (show kitB "list" "str" = some false by decide +kernel) h
  | dct b c => exact lk_isi rfl (show kitB "dict" "str" = some false by decide +kernel) h
  | _ => unfold gd at g; cases g
theorem lk_isi_int {d : D} (g : gd d = true) (h : Q (.bl (isI d))) : Lk (isiB "int" d st) Q := by
  cases d with
  | non => exact lk_isi rfl (show kitB "NoneType" "int" = some false by decide +kernel) h
  | bl b => exact lk_isi rfl (show kitB "bool" "int" = some true by decide +kernel) h
  | int b => exact lk_isi rfl (show kitB "int" "int" = some true by decide +kernel) h
  | str b => exact lk_isi rfl (show kitB "str" "int" = some false by decide +kernel) h
  | tup b => exact lk_isi rfl (show kitB "tuple" "int" = some false by decide +kernel) h
  | lst b => exact lk_isi rfl (show kitB "list" "int" = some false by decide +kernel) h
  | dct b c => exact lk_isi rfl (show kitB "dict" "int" = some false by decide +kernel) h
  | _ => unfold gd at g; cases g
theorem lk_isi_bool {d : D} (g : gd d = true) (h : Q (.bl (isBo d))) : Lk (isiB "bool" d st) Q := by
  cases d with
  | non => exact lk_isi rfl (show kitB "NoneType" "bool" = some false by decide +kernel) h
  | bl b => exact lk_isi rfl (show kitB "bool" "bool" = some true by decide +kernel) h
  | int b => exact lk_isi rfl (show kitB "int" "bool" = some false by decide +kernel) h
  | str b => exact lk_isi rfl (show kitB "str" "bool" = some false by decide +kernel) h
  | tup b => exact lk_isi rfl (show kitB "tuple" "bool" = some false by decide +kernel) h
  | lst b => exact lk_isi rfl (show kitB "list" "bool" = some false by decide +kernel) h
  | dct b c => exact lk_isi rfl (show kitB "dict" "bool" = some false by decide +kernel) h
  | _ => unfold gd at g; cases g
theorem lk_isi_tuple {d : D} (g : gd d = true) (h : Q (.bl (isTu d))) : Lk (isiB "tuple" d st) Q := by
  cases d with
  | non => exact lk_isi rfl (show kitB "NoneType" "tuple" = some false by decide +kernel) h
  | bl b => exact lk_isi rfl (show kitB "bool" "tuple" = some false by decide +kernel) h
  | int b => exact lk_isi rfl (show kitB "int" "tuple" = some false by decide +kernel) h
  | str b => exact lk_isi rfl (show kitB "str" "tuple" = some false by decide +kernel) h
  | tup b => exact lk_isi rfl (show kitB "tuple" "tuple" = some true by decide +kernel) h
  | lst b => exact lk_isi rfl (show kitB "list" "tuple" = some false by decide +kernel) h
  | dct b c => exact lk_isi rfl (show kitB "dict" "tuple" = some false by decide +kernel) h
  | _ => unfold gd at g; cases g
theorem lk_eq_str {a b : Str} (h : Q (.bl (a == b))) : Lk (eqD (.str a) (.str b) st) Q := lk_some (a := .bl (a == b)) rfl h
theorem lk_ne_str {a b : Str} (h : Q (.bl (!(a == b)))) : Lk (neD (.str a) (.str b) st) Q := lk_some (a := .bl (!(a == b))) rfl h
theorem lk_eq_int {a b : Int} (h : Q (.bl (a == b))) : Lk (eqD (.int a) (.int b) st) Q := lk_some (a := .bl (a == b)) rfl h
theorem lk_ne_int {a b : Int} (h : Q (.bl (!(a == b)))) : Lk (neD (.int a) (.int b) st) Q := lk_some (a := .bl (!(a == b))) rfl h
theorem lk_eq_nil {ds : List D} (h : Q (.bl ds.isEmpty)) : Lk (eqD (.lst ds) (.lst []) st) Q := by
  refine lk_some (a := .bl ds.isEmpty) ?_ h
  cases ds <;> rfl
theorem lk_ne_nil {ds : List D} (h : Q (.bl (!ds.isEmpty))) : Lk (neD (.lst ds) (.lst []) st) Q := by
  refine lk_some (a := .bl (!ds.isEmpty)) ?_ h
  cases ds <;> rfl
theorem lk_eq_tnil {ds : List D} (h : Q (.bl ds.isEmpty)) : Lk (eqD (.tup ds) (.tup []) st) Q := by
  refine lk_some (a := .bl ds.isEmpty) ?_ h
  cases ds <;> rfl
theorem lk_ne_tnil {ds : List D} (h : Q (.bl (!ds.isEmpty))) : Lk (neD (.tup ds) (.tup []) st) Q := by
  refine lk_some (a := .bl (!ds.isEmpty)) ?_ h
  cases ds <;> rfl
theorem lk_in_strs {w : Str} {ds : List D} (p : plnL ds = true) (h : Q (.bl (ds.any fun y => PyData.eqv (py y) (.str w)))) : Lk (inD (.str w) (.tup ds) st) Q := by
  refine lk_some (a := .bl (ds.any fun y => PyData.eqv (py y) (.str w))) ?_ h
  show (if (pln (.str w) && plnL ds && decide ((py (.str w)).depth ≤ 150)) = true then some (ds.any fun y => PyData.eqv (py y) (py (.str w))) else none).map D.bl = _
  rw [p]; rfl
theorem lk_nin_strs {w : Str} {ds : List D} (p : plnL ds = true) (h : Q (.bl (!(ds.any fun y => PyData.eqv (py y) (.str w))))) : Lk (notInD (.str w) (.tup ds) st) Q := by
  refine lk_some (a := .bl (!(ds.any fun y => PyData.eqv (py y) (.str w)))) ?_ h
  show (if (pln (.str w) && plnL ds && decide ((py (.str w)).depth ≤ 150)) = true then some (ds.any fun y => PyData.eqv (py y) (py (.str w))) else none).map (fun k => D.bl (!k)) = _
  rw [p]; rfl
theorem lk_in_letters {c : Nat} (h : Q (.bl (lett c))) : Lk (inD (.str ⟨#[c]⟩) (.str "abcdefghijklmnopqrstuvwxyz") st) Q := by
  refine lk_some (a := .bl (lett c)) ?_ h
  show some (D.bl (!(Builtin.Str.occurrences (Str.ofString "abcdefghijklmnopqrstuvwxyz") ⟨#[c]⟩ 0 (Str.ofString "abcdefghijklmnopqrstuvwxyz").length 1).isEmpty)) = _
  rw [in_letters]
theorem lk_in_figs {c : Nat} (h : Q (.bl (fig c))) : Lk (inD (.str ⟨#[c]⟩) (.str "0123456789") st) Q := by
  refine lk_some (a := .bl (fig c)) ?_ h
  show some (D.bl (!(Builtin.Str.occurrences (Str.ofString "0123456789") ⟨#[c]⟩ 0 (Str.ofString "0123456789").length 1).isEmpty)) = _
  rw [in_figures]
theorem lk_nin_figs {c : Nat} (h : Q (.bl (!(fig c)))) : Lk (notInD (.str ⟨#[c]⟩) (.str "0123456789") st) Q := by
  refine lk_some (a := .bl (!(fig c))) ?_ h
  show some (D.bl (!(!(Builtin.Str.occurrences (Str.ofString "0123456789") ⟨#[c]⟩ 0 (Str.ofString "0123456789").length 1).isEmpty))) = _
  rw [in_figures]
/-- a comprehension that changes nothing -/
theorem lc_pure {gm : GM} {tm : TM} {em : EM} {en : En} (p : D → Bool) (f : D → D) : ∀ (ds acc : List D), (∀ d ∈ ds, ∃ en', gm d en st = some en' ∧ tm en' st = .ok (p d) st ∧ (p d = true → em en' st = .ok (f d) st)) → acc.length + ds.length ≤ sizeLine →
    lcLoop gm tm em en ds acc st = .ok (acc ++ (ds.filter p).map f) st
  | [], acc, _, _ => by show Out.ok acc st = _; simp
  | d :: ds, acc, h, hl => by
    obtain ⟨en', h1, h2, h3⟩ := h d (.head _)
    rw [List.length_cons] at hl
    rw [lcLoop_cons]
    simp only [h1, h2]
    cases e : p d with
    | false =>
      simp only
      rw [lc_pure p f ds acc (fun d hd => h d (.tail _ hd)) (by omega), List.filter_cons, e]; rfl
    | true =>
      simp only [h3 e]
      rw [if_pos (by omega), lc_pure p f ds (acc ++ [f d]) (fun d hd => h d (.tail _ hd)) (by rw [List.length_append, List.length_singleton]; omega), List.filter_cons, e]
      simp
theorem ok_lc_pure {gm : GM} {tm : TM} {em : EM} {en : En} {E : ErP} {PL : List D → Sto → Prop} (p : D → Bool) (f : D → D) {ds : List D} (hl : ds.length ≤ sizeLine) (h : ∀ d ∈ ds, ∃ en', gm d en st = some en' ∧ tm en' st = .ok (p d) st ∧ (p d = true → em en' st = .ok (f d) st))
    (q : PL ((ds.filter p).map f) st) : Ok (lcLoop gm tm em en ds [] st) PL E := by
  refine ok_of (lc_pure p f ds [] h (by simpa using hl)) ?_
  simpa using q
theorem is_of {α : Type} {o : Out α} {a : α} (h : Ok o (fun r st' => r = a ∧ st' = st) NoE) : o = .ok a st := by
  obtain ⟨r, st', e, rfl, rfl⟩ := h.eq
  exact e
theorem glk_all {bs : List Bool} {Q : D → Sto → Prop} (h : Q (.bl (bs.all id)) st) : GLk (allG [.lst (bs.map .bl)] st) Q := by
  refine glk_some (d := .bl (bs.all id)) (st := st) ?_ h
  have e : blsD (bs.map D.bl) = some bs := by
    clear h
    induction bs with
    | nil => rfl
    | cons b bs ih => show (blsD (bs.map D.bl)).map (b :: ·) = _; rw [ih]; rfl
  show ((some (bs.map D.bl)).bind blsD).map _ = _
  show (blsD (bs.map D.bl)).map _ = _
  rw [e]; rfl
end
theorem gd_str {x : Str} (h : gd (.str x) = true) : x.length ≤ 1000000 ∧ ∀ c ∈ cs x, c < 128 := by
  unfold gd at h
  rw [Bool.and_eq_true, decide_eq_true_eq, List.all_eq_true] at h
  exact ⟨h.1, fun c hc => of_decide_eq_true (h.2 c hc)⟩
theorem gd_tup {ds : List D} (h : gd (.tup ds) = true) : ds.length ≤ 100000 ∧ gdL ds = true := by
  unfold gd at h
  rw [Bool.and_eq_true, decide_eq_true_eq] at h
  exact h
theorem signs_map (x : Str) : signs x = (cs x).map fun c => D.str ⟨#[c]⟩ := rfl
def nmD : D → Bool | .str x => isNm x | _ => false
def farD : D → Bool | .str x => isFarS x | _ => false

abbrev dp (d : D) : Nat := (py d).depth
theorem dpL_cons (d : D) (ds : List D) : PyData.depthAll (pyL (d :: ds)) = max (py d).depth (PyData.depthAll (pyL ds)) := by simp only [pyL, PyData.depthAll]
theorem dpL_mem : ∀ {ds : List D} {e : D}, e ∈ ds → dp e ≤ PyData.depthAll (pyL ds)
  | d :: ds, e, h => by
    rw [dpL_cons]
    cases h with
    | head => exact Nat.le_max_left _ _
    | tail _ h => exact Nat.le_trans (dpL_mem h) (Nat.le_max_right _ _)
theorem dp_tup (ds : List D) : dp (.tup ds) = PyData.depthAll (pyL ds) + 1 := by simp only [dp, py, PyData.depth]
theorem dp_item {ds : List D} {e : D} (h : e ∈ ds) : dp e + 1 ≤ dp (.tup ds) := by rw [dp_tup]; have := dpL_mem h; omega

mutual
/-- ascii, no changeable object -/
def asc : D → Bool
  | .non | .bl _ | .int _ => true
  | .str x => (cs x).all fun c => decide (c < 128)
  | .tup ds | .lst ds => ascL ds
  | .dct ks ds => decide (ks.length = ds.length) && decide (ks = [.inl 0] ∨ ks = []) && ascL ds
  | .cell _ | .glob _ | .scr _ | .exc _ _ _ => false
def ascL : List D → Bool
  | [] => true
  | d :: ds => asc d && ascL ds
end
mutual
/-- at least what it takes to show it -/
def wt : D → Nat
  | .non | .bl _ => 8
  | .int _ => 500
  | .str x => 10 * x.length + 8
  | .tup ds | .lst ds => wtL ds + 8
  | .dct ks ds => 10 * ks.length + wtL ds + 8
  | .cell _ | .glob _ | .scr _ | .exc _ _ _ => 8
def wtL : List D → Nat
  | [] => 0
  | d :: ds => wt d + 4 + wtL ds
end
mutual
def mx : D → Nat
  | .int i => i.natAbs
  | .tup ds | .lst ds | .dct _ ds => mxL ds
  | .non | .bl _ | .str _ | .cell _ | .glob _ | .scr _ | .exc _ _ _ => 0
def mxL : List D → Nat
  | [] => 0
  | d :: ds => max (mx d) (mxL ds)
end
theorem ascL_mem : ∀ {ds : List D}, ascL ds = true → ∀ d ∈ ds, asc d = true
  | d :: ds, h, e, he => by
    unfold ascL at h
    rw [Bool.and_eq_true] at h
    cases he with
    | head => exact h.1
    | tail _ he => exact ascL_mem h.2 e he
theorem ascL_of : ∀ {ds : List D}, (∀ d ∈ ds, asc d = true) → ascL ds = true
  | [], _ => by unfold ascL; rfl
  | d :: ds, h => by
    unfold ascL
    rw [Bool.and_eq_true]
    exact ⟨h d (.head _), ascL_of fun e he => h e (.tail _ he)⟩
theorem wtL_cons (d : D) (ds : List D) : wtL (d :: ds) = wt d + 4 + wtL ds := by simp only [wtL]
theorem wtL_nil : wtL [] = 0 := by simp only [wtL]
theorem wtL_app : ∀ (ds es : List D), wtL (ds ++ es) = wtL ds + wtL es
  | [], es => by rw [wtL_nil]; simp
  | d :: ds, es => by rw [List.cons_append, wtL_cons, wtL_cons, wtL_app ds es]; omega
theorem mxL_cons (d : D) (ds : List D) : mxL (d :: ds) = max (mx d) (mxL ds) := by simp only [mxL]
theorem mxL_nil : mxL [] = 0 := by simp only [mxL]
theorem mxL_le {M : Nat} : ∀ {ds : List D}, (∀ d ∈ ds, mx d ≤ M) → mxL ds ≤ M
  | [], _ => by rw [mxL_nil]; omega
  | d :: ds, h => by
    rw [mxL_cons]
    exact Nat.max_le.mpr ⟨h d (.head _), mxL_le fun e he => h e (.tail _ he)⟩
theorem mxL_mem : ∀ {ds : List D} {e : D}, e ∈ ds → mx e ≤ mxL ds
  | d :: ds, e, h => by
    rw [mxL_cons]
    cases h with
    | head => exact Nat.le_max_left _ _
    | tail _ h => exact Nat.le_trans (mxL_mem h) (Nat.le_max_right _ _)
theorem wtL_mem : ∀ {ds : List D} {e : D}, e ∈ ds → wt e + 4 ≤ wtL ds
  | d :: ds, e, h => by
    rw [wtL_cons]
    cases h with
    | head => omega
    | tail _ h => have := wtL_mem h; omega
theorem wt_pos : ∀ d : D, 8 ≤ wt d
  | .non => by simp only [wt]; omega
  | .bl _ => by simp only [wt]; omega
  | .int _ => by simp only [wt]; omega
  | .str _ => by simp only [wt]; omega
  | .tup _ => by simp only [wt]; omega
  | .lst _ => by simp only [wt]; omega
  | .dct _ _ => by simp only [wt]; omega
  | .cell _ => by simp only [wt]; omega
  | .glob _ => by simp only [wt]; omega
  | .scr _ => by simp only [wt]; omega
  | .exc _ _ _ => by simp only [wt]; omega
theorem wtL_len : ∀ ds : List D, 12 * ds.length ≤ wtL ds
  | [] => by rw [wtL_nil]; simp
  | d :: ds => by
    rw [wtL_cons, List.length_cons]
    have := wtL_len ds
    have := wt_pos d
    omega
theorem dpL_le {N : Nat} : ∀ {ds : List D}, (∀ d ∈ ds, dp d ≤ N) → PyData.depthAll (pyL ds) ≤ N
  | [], _ => by simp only [pyL, PyData.depthAll]; omega
  | d :: ds, h => by
    rw [dpL_cons]
    exact Nat.max_le.mpr ⟨h d (.head _), dpL_le fun e he => h e (.tail _ he)⟩
theorem dp_lst (ds : List D) : dp (.lst ds) = PyData.depthAll (pyL ds) + 1 := by simp only [dp, py, PyData.depth]
/-- data of bounded weight, numbers, depth -/
structure Bx (W M N : Nat) (d : D) : Prop where
  a : asc d = true
  w : wt d ≤ W
  m : mx d ≤ M
  n : dp d ≤ N
theorem Bx.mono {W M N W' M' N' : Nat} {d : D} (h : Bx W M N d) (a : W ≤ W') (b : M ≤ M') (c : N ≤ N') : Bx W' M' N' d := ⟨h.a, Nat.le_trans h.w a, Nat.le_trans h.m b, Nat.le_trans h.n c⟩
theorem Bx.item {W M N : Nat} {ds : List D} {e : D} (h : Bx W M N (.tup ds)) (he : e ∈ ds) : Bx W M N e := by
  have ha := h.a; have hw := h.w; have hm := h.m; have hn := h.n
  simp only [asc] at ha
  simp only [wt] at hw
  simp only [mx] at hm
  have := dp_item he
  have := wtL_mem he
  have := mxL_mem he
  exact ⟨ascL_mem ha e he, by omega, by omega, by omega⟩
theorem Bx.tup {W M N : Nat} {ds : List D} (h : ∀ d ∈ ds, Bx W M N d) (hw : wtL ds + 8 ≤ W') (hn : N + 1 ≤ N') : Bx W' M N' (.tup ds) := by
  refine ⟨by simp only [asc]; exact ascL_of fun d hd => (h d hd).a, by simp only [wt]; exact hw, by simp only [mx]; exact mxL_le fun d hd => (h d hd).m, ?_⟩
  rw [dp_tup]
  have := dpL_le fun d hd => (h d hd).n
  omega
theorem Bx.lst {W M N : Nat} {ds : List D} (h : ∀ d ∈ ds, Bx W M N d) (hw : wtL ds + 8 ≤ W') (hn : N + 1 ≤ N') : Bx W' M N' (.lst ds) := by
  refine ⟨by simp only [asc]; exact ascL_of fun d hd => (h d hd).a, by simp only [wt]; exact hw, by simp only [mx]; exact mxL_le fun d hd => (h d hd).m, ?_⟩
  rw [dp_lst]
  have := dpL_le fun d hd => (h d hd).n
  omega
mutual
theorem gd_of : ∀ {d : D}, asc d = true → wt d ≤ 900000 → mx d ≤ 10 ^ 40 → gd d = true
  | .non, _, _, _ => by unfold gd; rfl
  | .bl _, _, _, _ => by unfold gd; rfl
  | .int i, _, _, h => by
    simp only [mx] at h
    unfold gd
    refine decide_eq_true ?_
    by_cases z : i.natAbs = 0
    · rw [z]; decide
    · refine (Nat.log2_lt z).mpr (Nat.lt_of_le_of_lt h ?_)
      decide +kernel
  | .str x, a, w, _ => by
    simp only [asc] at a
    simp only [wt] at w
    unfold gd
    rw [Bool.and_eq_true, decide_eq_true_eq]
    exact ⟨by omega, a⟩
  | .tup ds, a, w, m => by
    simp only [asc] at a
    simp only [wt] at w
    simp only [mx] at m
    unfold gd
    rw [Bool.and_eq_true, decide_eq_true_eq]
    exact ⟨by have := wtL_len ds; omega, gdL_of' a (by omega) m⟩
  | .lst ds, a, w, m => by
    simp only [asc] at a
    simp only [wt] at w
    simp only [mx] at m
    unfold gd
    rw [Bool.and_eq_true, decide_eq_true_eq]
    exact ⟨by have := wtL_len ds; omega, gdL_of' a (by omega) m⟩
  | .dct ks ds, a, w, m => by
    simp only [asc, Bool.and_eq_true] at a
    simp only [wt] at w
    simp only [mx] at m
    unfold gd
    rw [Bool.and_eq_true, Bool.and_eq_true]
    exact ⟨a.1, gdL_of' a.2 (by omega) m⟩
  | .cell _, a, _, _ => by simp only [asc] at a; cases a
  | .glob _, a, _, _ => by simp only [asc] at a; cases a
  | .scr _, a, _, _ => by simp only [asc] at a; cases a
  | .exc _ _ _, a, _, _ => by simp only [asc] at a; cases a
theorem gdL_of' : ∀ {ds : List D}, ascL ds = true → wtL ds ≤ 900000 → mxL ds ≤ 10 ^ 40 → gdL ds = true
  | [], _, _, _ => by unfold gdL; rfl
  | d :: ds, a, w, m => by
    simp only [ascL, Bool.and_eq_true] at a
    rw [wtL_cons] at w
    rw [mxL_cons] at m
    unfold gdL
    rw [Bool.and_eq_true]
    exact ⟨gd_of a.1 (by omega) (Nat.le_trans (Nat.le_max_left _ _) m), gdL_of' a.2 (by omega) (Nat.le_trans (Nat.le_max_right _ _) m)⟩
end
theorem Bx.gd {W M N : Nat} {d : D} (h : Bx W M N d) (hW : W ≤ 900000) (hM : M ≤ 10 ^ 40) : gd d = true := gd_of h.a (Nat.le_trans h.w hW) (Nat.le_trans h.m hM)
theorem listText_le (ts : List Str) : (listText ts).length ≤ (ts.map (·.length)).sum + 2 * ts.length + 2 := by
  rw [listText_eq_join, len_app, len_app]
  have h := StrLaws.join_length_le (Str.ofString ", ") ts
  have e : (Str.ofString ", ").length = 2 := by decide +kernel
  have e1 : (Str.ofString "[").length = 1 := by decide +kernel
  have e2 : (Str.ofString "]").length = 1 := by decide +kernel
  rw [e] at h
  rw [e1, e2]
  omega
theorem tupleText_le (ts : List Str) : (tupleText ts).length ≤ (ts.map (·.length)).sum + 2 * ts.length + 3 := by
  unfold tupleText
  rw [len_app, len_app]
  have h := StrLaws.join_length_le (Str.ofString ", ") ts
  have e : (Str.ofString ", ").length = 2 := by decide +kernel
  have e1 : (Str.ofString "(").length = 1 := by decide +kernel
  have e2 : (Str.ofString (if ts.length == 1 then ",)" else ")")).length ≤ 2 := by split <;> decide +kernel
  rw [e] at h
  rw [e1]
  omega
theorem dictText_le (ts : List Str) : (dictText ts).length ≤ (ts.map (·.length)).sum + 2 * ts.length + 2 := by
  unfold dictText
  rw [len_app, len_app]
  have h := StrLaws.join_length_le (Str.ofString ", ") ts
  have e : (Str.ofString ", ").length = 2 := by decide +kernel
  have e1 : (Str.ofString "{").length = 1 := by decide +kernel
  have e2 : (Str.ofString "}").length = 1 := by decide +kernel
  rw [e] at h
  rw [e1, e2]
  omega
mutual
theorem shown_le : ∀ {d : D}, asc d = true → mx d ≤ 10 ^ 40 → (py d).shown.length ≤ wt d ∧ pur d = true ∧ (py d).showable = true
  | .non, _, _ => ⟨by simp only [py, PyData.shown, wt]; decide +kernel, rfl, rfl⟩
  | .bl b, _, _ => ⟨by simp only [py, PyData.shown, wt]; cases b <;> decide +kernel, rfl, rfl⟩
  | .int i, _, h => by
    simp only [mx] at h
    have hl : i.natAbs.log2 < 134 := by
      by_cases z : i.natAbs = 0
      · rw [z]; decide
      · refine (Nat.log2_lt z).mpr (Nat.lt_of_le_of_lt h ?_)
        decide +kernel
    refine ⟨?_, rfl, ?_⟩
    · simp only [py, PyData.shown, wt]
      have := int_text_length_le10 (a := i) (k := 41) (by decide) (by
        have : (10 : Nat) ^ 40 < 10 ^ 41 := by decide +kernel
        omega)
      have e : (Str.ofString (toString i)).length = (toString i).length := by
        rw [← cs_len]
        show ((Str.ofString (toString i)).cps.toList).length = _
        rw [PyProof.Rows.signs_ofString, List.length_map, String.length_toList]
      omega
    · simp only [py, PyData.showable]
      exact decide_eq_true (by omega)
  | .str x, a, _ => by
    simp only [asc] at a
    refine ⟨?_, rfl, rfl⟩
    simp only [py, PyData.shown, wt]
    have := StrLaws.reprText_len x fun c hc => by
      have := of_decide_eq_true (List.all_eq_true.mp a c hc)
      have h2 : (128 : Nat) < 16 ^ 8 := by decide +kernel
      omega
    omega
  | .tup ds, a, m => by
    simp only [asc] at a
    simp only [mx] at m
    obtain ⟨h1, h2, h3⟩ := shownL_le a m
    refine ⟨?_, by unfold pur; exact h2, by simp only [py, PyData.showable]; exact h3⟩
    simp only [py, PyData.shown, wt]
    have := tupleText_le (PyData.shownAll (pyL ds))
    omega
  | .lst ds, a, m => by
    simp only [asc] at a
    simp only [mx] at m
    obtain ⟨h1, h2, h3⟩ := shownL_le a m
    refine ⟨?_, by unfold pur; exact h2, by simp only [py, PyData.showable]; exact h3⟩
    simp only [py, PyData.shown, wt]
    have := listText_le (PyData.shownAll (pyL ds))
    omega
  | .dct ks ds, a, m => by
    simp only [asc, Bool.and_eq_true, decide_eq_true_eq] at a
    simp only [mx] at m
    obtain ⟨h1, h2, h3⟩ := shownL_le a.2 m
    refine ⟨?_, by unfold pur; exact h2, ?_⟩
    · simp only [py, PyData.shown, wt]
      rcases a.1.2 with rfl | rfl
      · match ds, a.1.1 with
        | [d], _ =>
          have := dictText_le (PyData.shownKv ((List.map keyPy [Sum.inl 0]).zip (pyL [d])))
          have e : PyData.shownKv ((List.map keyPy [Sum.inl 0]).zip (pyL [d])) = [(PyData.int 0).shown ++ Str.ofString ": " ++ (py d).shown] := by simp [keyPy, pyL, PyData.shownKv]
          have e1 : PyData.shownAll (pyL [d]) = [(py d).shown] := by simp [pyL, PyData.shownAll]
          rw [e1] at h1
          rw [e] at this ⊢
          simp only [List.map_cons, List.map_nil, List.sum_cons, List.sum_nil, List.length_cons, List.length_nil, len_app] at this h1 ⊢
          have q1 : ((PyData.int 0).shown).length = 1 := by decide +kernel
          have q2 : (Str.ofString ": ").length = 2 := by decide +kernel
          omega
      · match ds, a.1.1 with
        | [], _ => simp only [List.map_nil, List.zip_nil_left, PyData.shownKv]; decide +kernel
    · simp only [py, PyData.showable]
      rcases a.1.2 with rfl | rfl
      · match ds, a.1.1 with
        | [d], _ =>
          simp [keyPy, pyL, PyData.showableKv, PyData.showable, PyData.showableAll] at h3 ⊢
          exact h3
      · simp [PyData.showableKv]
  | .cell _, a, _ => by simp only [asc] at a; cases a
  | .glob _, a, _ => by simp only [asc] at a; cases a
  | .scr _, a, _ => by simp only [asc] at a; cases a
  | .exc _ _ _, a, _ => by simp only [asc] at a; cases a
theorem shownL_le : ∀ {ds : List D}, ascL ds = true → mxL ds ≤ 10 ^ 40 → ((PyData.shownAll (pyL ds)).map (·.length)).sum + 2 * (PyData.shownAll (pyL ds)).length ≤ wtL ds ∧ purL ds = true ∧ PyData.showableAll (pyL ds) = true
  | [], _, _ => ⟨by simp [pyL, PyData.shownAll], by unfold purL; rfl, by simp [pyL, PyData.showableAll]⟩
  | d :: ds, a, m => by
    simp only [ascL, Bool.and_eq_true] at a
    rw [mxL_cons] at m
    obtain ⟨h1, h2, h3⟩ := shown_le a.1 (Nat.le_trans (Nat.le_max_left _ _) m)
    obtain ⟨g1, g2, g3⟩ := shownL_le a.2 (Nat.le_trans (Nat.le_max_right _ _) m)
    refine ⟨?_, by unfold purL; rw [h2, g2]; rfl, by simp only [pyL, PyData.showableAll]; rw [h3, g3]; rfl⟩
    rw [wtL_cons]
    simp only [pyL, PyData.shownAll, List.map_cons, List.sum_cons, List.length_cons]
    omega
end

theorem glk_repr {W M N : Nat} {d : D} {st : Sto} {Q : D → Sto → Prop} (b : Bx W M N d) (hW : W ≤ 900000) (hM : M ≤ 10 ^ 40) (hN : N ≤ 150) (h : Q (.str (py d).shown) st) : GLk (reprG [d] st) Q := by
  obtain ⟨h1, h2, h3⟩ := shown_le b.a (Nat.le_trans b.m hM)
  have e : frz st d = d := by
    cases d with
    | cell n => have := b.a; simp only [asc] at this; cases this
    | _ => rfl
  refine glk_some (d := .str (py d).shown) (st := st) ?_ h
  show (reprB (frz st d)).map _ = _
  rw [e]
  unfold reprB
  rw [if_pos ⟨h2, h3, le_line (by have := b.w; omega), Nat.le_trans b.n hN⟩]
  rfl
theorem bx3 (a b c : Bool) : Bx 100 0 1 (.lst [.bl a, .bl b, .bl c]) := by
  refine Bx.lst (W := 8) (N := 0) (fun d hd => ?_) ?_ (by decide)
  · have : d = .bl a ∨ d = .bl b ∨ d = .bl c := by simpa using hd
    rcases this with rfl | rfl | rfl <;> exact ⟨rfl, by simp only [wt]; omega, by simp only [mx]; omega, Nat.le_refl 0⟩
  · simp only [wtL, wt]; omega

end Pd

namespace Pd
open PySem PySem.Spec L2
open PyProof.Rows hiding St
local instance dCPg0 : Codes := ⟨fun _ _ _ _ => .ext fun _ => True, fun _ _ _ _ => ⟨_, rfl⟩, fun _ => "", fun _ => [], []⟩
section
variable {E : ErP} {st : Sto} {en : En} {P : D → Sto → Prop} {m mo mi : EM} {lm lk : LM}
theorem ok_enum {PI : List D → Sto → Prop} (h : Ok (m en st) (fun d st => Lk (rowE d) fun ds => PI (enums 0 ds) st) E) : Ok (iEnum' m en st) PI E := ok_mb (h.to fun d st h => by
  cases e : rowE d with
  | none => rw [e] at h; exact h.elim
  | some ds => rw [e] at h; exact h)
theorem ok_fnv {i : Nat} (h : P (.cell st.length) (st ++ [.clo i [] true])) : Ok (mFn i en st) P E := h
theorem ok_give {G : FM} {nargs p i : Nat} {js : List Nat} (h : Ok (lm en st) (fun ds st => ∃ n ws, ds[p]? = some (.cell n) ∧ caps js en = some ws ∧ st[n]? = some (.clo i [] true) ∧ ds.length = nargs ∧
    Ok (G ds (st.set n (.clo i ws false))) (fun d st' => st'[n]? = some (.clo i ws false) ∧ P d (st'.set n (.clo i [] true))) NoE) E) : Ok (mGive G nargs p i js lm en st) P E := ok_mb (h.to fun ds st h => by
  obtain ⟨n, ws, h1, h2, h3, h4, h5⟩ := h
  obtain ⟨d, st', e, h6, h7⟩ := h5.eq
  simp only [h1, h2]
  unfold giveM
  rw [if_pos ⟨h3, h4⟩, e, shutG_ok h6]
  exact h7)
theorem ok_cloM {G : FM} {n i : Nat} {ws ds : List D} (h : Ok (G (ds ++ ws) (st.set n (.clo i ws true))) (fun d st' => st'[n]? = some (.clo i ws true) ∧ P d (st'.set n (.clo i ws false))) NoE) : Ok (cloM G n i ws ds st) P E := by
  obtain ⟨d, st', e, h6, h7⟩ := h.eq
  unfold cloM
  rw [e, shut_ok h6]
  exact h7
theorem ok_callV_c {Rc : Nat → FM} {ar : Nat → Nat} {Rg : Str → Option (Nat × FM)} {j n i0 : Nat} {w0 : List D} {u0 : Bool} (hj : en[j]? = some (some (.cell n))) (hs : st[n]? = some (.clo i0 w0 u0))
    (h : Ok (lm en st) (fun ds st => ∃ i ws, st[n]? = some (.clo i ws false) ∧ ds.length = ar i ∧ Ok (cloM (Rc i) n i ws ds st) P E) E) : Ok (mCallV Rc ar Rg j lm en st) P E := by
  unfold mCallV
  rw [hj]
  simp only [hs]
  exact ok_mb (h.to fun ds st h => by
    obtain ⟨i, ws, h1, h2, h3⟩ := h
    simp only [h1, if_pos h2]
    exact h3)
theorem ok_callV_g {Rc : Nat → FM} {ar : Nat → Nat} {Rg : Str → Option (Nat × FM)} {j k : Nat} {x : Str} {G : FM} (hj : en[j]? = some (some (.glob x))) (hr : Rg x = some (k, G)) (h : Ok (lm en st) (fun ds st => ds.length = k ∧ Ok (G ds st) P E) E) : Ok (mCallV Rc ar Rg j lm en st) P E := by
  unfold mCallV
  rw [hj]
  simp only [hr]
  exact ok_mb (h.to fun ds st h => by rw [if_pos h.1]; exact h.2)
theorem ok_callK {G : FM} {np n nk : Nat} {ix : List Nat} (h : Ok (lm en st) (fun ds st => Ok (lk en st) (fun zs st => (ds.length = n ∧ zs.length = nk ∧ (permL ix (ds ++ zs)).length = np) ∧ Ok (G (permL ix (ds ++ zs)) st) P E) E) E) : Ok (mCallK G np n nk ix lm lk en st) P E :=
  ok_mb (h.to fun ds st h => ok_mb (h.to fun zs st h => by rw [if_pos h.1]; exact h.2))
variable {nx : En → Sto → Prop} {rt : D → Sto → Prop} {bk ct : En → Sto → Prop} {er : ErP}
theorem sk_put (h : Ok (m en st) (fun d st => Ok (mo en st) (fun o st => Ok (mi en st) (fun i st => ∃ st', putD o i d st = some st' ∧ nx en st') er) er) er) : Sk (sPut mo mi m en st) ⟨nx, rt, bk, ct, er⟩ :=
  sk_smb (h.to fun d st h => sk_smb (h.to fun o st h => sk_smb (h.to fun i st h => by
    obtain ⟨st', e, h⟩ := h
    simp only [e]
    exact h)))
/-- a while that ends: I with a number that falls -/
theorem sk_whileLoop {c : TM} {body : SM} (I : Nat → En → Sto → Prop) (hs : ∀ n en st, I n en st → Ok (c en st) (fun k st => Cnd k (∃ n', n = n' + 1 ∧ Sk (body en st) ⟨I n', rt, nx, I n', er⟩) (nx en st)) er) : ∀ (fuel n : Nat) (en : En) (st : Sto), n < fuel → I n en st → Sk (whileLoop c body fuel en st) ⟨nx, rt, bk, ct, er⟩
  | 0, _, _, _, hf, _ => absurd hf (by omega)
  | fuel + 1, n, en, st, hf, hi => by
    unfold whileLoop
    refine sk_smb ((hs n en st hi).to fun k st h => sk_if ⟨fun z => ?_, fun z => h.2 z⟩)
    obtain ⟨n', rfl, q⟩ := h.1 z
    cases e : body en st with
    | nx en2 st2 => rw [e] at q; exact sk_whileLoop I hs fuel n' en2 st2 (by omega) q
    | ct en2 st2 => rw [e] at q; exact sk_whileLoop I hs fuel n' en2 st2 (by omega) q
    | bk en2 st2 => rw [e] at q; exact q
    | rt d st2 => rw [e] at q; exact q
    | err x en2 st2 => rw [e] at q; exact q
    | bad => rw [e] at q; exact q
theorem sk_while {c : TM} {body : SM} {fuel n : Nat} (I : Nat → En → Sto → Prop) (hf : n < fuel) (h0 : I n en st) (hs : ∀ n en st, I n en st → Ok (c en st) (fun k st => Cnd k (∃ n', n = n' + 1 ∧ Sk (body en st) ⟨I n', rt, nx, I n', er⟩) (nx en st)) er) : Sk (sWhile fuel c body en st) ⟨nx, rt, bk, ct, er⟩ := sk_whileLoop I hs fuel n en st hf h0
/-- a comprehension that changes nothing, over what is told by g -/
theorem lc_map {α : Type} {gm : GM} {em : EM} (g : α → D) (f : α → D) : ∀ (xs : List α) (acc : List D), (∀ x ∈ xs, ∃ en', gm (g x) en st = some en' ∧ em en' st = .ok (f x) st) → acc.length + xs.length ≤ sizeLine → lcLoop gm tmYes em en (xs.map g) acc st = .ok (acc ++ xs.map f) st
  | [], acc, _, _ => by show Out.ok acc st = _; simp
  | x :: xs, acc, h, hl => by
    obtain ⟨en', h1, h2⟩ := h x (.head _)
    rw [List.length_cons] at hl
    rw [List.map_cons, lcLoop_cons]
    simp only [h1, h2, tmYes]
    rw [if_pos (by omega), lc_map g f xs (acc ++ [f x]) (fun x hx => h x (.tail _ hx)) (by rw [List.length_append, List.length_singleton]; omega)]
    simp
theorem ok_lc_map {α : Type} {gm : GM} {em : EM} {PL : List D → Sto → Prop} (g : α → D) (f : α → D) {ds : List D} {xs : List α} (e : ds = xs.map g) (hl : xs.length ≤ sizeLine) (h : ∀ x ∈ xs, ∃ en', gm (g x) en st = some en' ∧ em en' st = .ok (f x) st) (q : PL (xs.map f) st) : Ok (lcLoop gm tmYes em en ds [] st) PL E := by
  subst e
  exact ok_of (lc_map g f xs [] h (by simpa using hl)) (by simpa using q)
/-- a comprehension that draws: each item keeps J going and has p -/
theorem ok_lc_gen {gm : GM} {em : EM} {PL : List D → Sto → Prop} {ds : List D} (J : Nat → Sto → Prop) (p : D → Prop) (hl : ds.length ≤ sizeLine) (h0 : J 0 st)
    (h : ∀ (i : Nat) (d : D) (st : Sto), ds[i]? = some d → J i st → ∃ en', gm d en st = some en' ∧ Ok (em en' st) (fun d' st' => p d' ∧ J (i + 1) st') NoE) (q : ∀ acc st', acc.length = ds.length → (∀ d ∈ acc, p d) → J ds.length st' → PL acc st') : Ok (lcLoop gm tmYes em en ds [] st) PL E := by
  refine ok_lcLoop (I := fun acc rest st' => (∃ i, acc.length = i ∧ rest = ds.drop i ∧ i ≤ ds.length ∧ J i st') ∧ ∀ d ∈ acc, p d) (fun acc st' hh => ?_) (fun d rest acc st' hh => ?_) _ _ _ ⟨⟨0, rfl, by simp, Nat.zero_le _, h0⟩, nofun⟩
  · obtain ⟨⟨i, h1, h2, h3, h4⟩, h5⟩ := hh
    have : i = ds.length := by
      have := congrArg List.length h2
      rw [List.length_drop, List.length_nil] at this
      omega
    subst this
    exact q acc st' h1 h5 h4
  · obtain ⟨⟨i, h1, h2, h3, h4⟩, h5⟩ := hh
    have hi : i < ds.length := by
      have := congrArg List.length h2
      rw [List.length_drop, List.length_cons] at this
      omega
    have e := List.drop_eq_getElem_cons hi
    rw [e] at h2
    injection h2 with h2 h6
    obtain ⟨en', g1, g2⟩ := h i d st' (by rw [h2]; exact List.getElem?_eq_getElem hi) h4
    rw [g1]
    refine lk_some rfl (ok_tYes (Cnd.t (g2.to fun d' st'' z => ⟨by omega, ⟨i + 1, by rw [List.length_append, h1]; rfl, h6, hi, z.2⟩, fun x hx => ?_⟩)))
    rcases List.mem_append.mp hx with y | y
    · exact h5 x y
    · rw [List.mem_singleton] at y; rw [y]; exact z.1
end
end Pd

namespace Pd
open PySem PySem.Spec L2
open PyProof.Rows hiding St
local instance dCPg1 : Codes := ⟨fun _ _ _ _ => .ext fun _ => True, fun _ _ _ _ => ⟨_, rfl⟩, fun _ => "", fun _ => [], []⟩
section
variable {E : ErP} {st : Sto} {en : En} {Q : D → Sto → Prop} {n : Nat} {ds : List D} {d : D}
theorem tyM_lst (h : st[n]? = some (.lst ds)) : tyM "list" st (.cell n) = true := by
  show (match st[n]? with | some (.lst _) => decide ("list" = "list") | some (.dct _ _) => decide ("list" = "dict") | _ => false) = true
  rw [h]; rfl
theorem ok_mt_list {m : EM} {lm : LM} {g : GM2} {P : D → Sto → Prop} (h : Ok (m en st) (fun o st => ∃ n ds, o = .cell n ∧ st[n]? = some (.lst ds) ∧ Ok (lm en st) (fun ds st => GLk (g o ds st) P) E) E) : Ok (mMt "list" g m lm en st) P E := ok_mt (h.to fun o st h => by
  obtain ⟨n, ds, rfl, h1, h2⟩ := h
  exact ⟨tyM_lst h1, h2⟩)
theorem glk_pop (h : st[n]? = some (.lst (ds ++ [d]))) (q : Q d (st.set n (.lst ds))) : GLk (popG (.cell n) [] st) Q := by
  refine glk_some (d := d) (st := st.set n (.lst ds)) ?_ q
  show (match st[n]? with | some (.lst es) => (es[es.length - 1]?).map fun d => (d, st.set n (.lst es.dropLast)) | _ => none) = _
  rw [h]
  simp
theorem glk_append (h : st[n]? = some (.lst ds)) (hl : ds.length < sizeLine) (q : Q .non (st.set n (.lst (ds ++ [d])))) : GLk (appendG (.cell n) [d] st) Q := by
  refine glk_some (d := .non) (st := st.set n (.lst (ds ++ [d]))) ?_ q
  show (match st[n]? with | some (.lst es) => if es.length < sizeLine then some (D.non, st.set n (.lst (es ++ [d]))) else none | _ => none) = _
  rw [h]
  exact if_pos hl
theorem glk_extend {fs : List D} (h : st[n]? = some (.lst ds)) (hl : ds.length + fs.length ≤ sizeLine) (q : Q .non (st.set n (.lst (ds ++ fs)))) : GLk (extendG (.cell n) [.lst fs] st) Q := by
  refine glk_some (d := .non) (st := st.set n (.lst (ds ++ fs))) ?_ q
  show (match st[n]? with | some (.lst es) => if es.length + fs.length ≤ sizeLine then some (D.non, st.set n (.lst (es ++ fs))) else none | _ => none) = _
  rw [h]
  exact if_pos hl
theorem lk_ne_cell {Q : D → Prop} (h : st[n]? = some (.lst ds)) (q : Q (.bl (!ds.isEmpty))) : Lk (neD (.cell n) (.lst []) st) Q := by
  refine lk_some (a := .bl (!ds.isEmpty)) ?_ q
  unfold neD
  rw [deref_cell, h]
  cases ds <;> rfl
theorem seqB_cell (h : st[n]? = some (.lst ds)) : seqB st (.cell n) = some ds := by
  show (match deref st (.cell n) with | .lst ds => some ds | .tup ds => some ds | _ => none) = _
  rw [deref_cell, h]
theorem glk_tup_cell (h : st[n]? = some (.lst ds)) (q : Q (.tup ds) st) : GLk (tupG [.cell n] st) Q := by
  refine glk_some (d := .tup ds) (st := st) ?_ q
  show (seqB st (.cell n)).map (fun es => (D.tup es, st)) = _
  rw [seqB_cell h]; rfl
theorem glk_tup_lst (q : Q (.tup ds) st) : GLk (tupG [.lst ds] st) Q := q
theorem glk_tup_tup (q : Q (.tup ds) st) : GLk (tupG [.tup ds] st) Q := q
theorem glk_listC_tup (q : Q (.cell st.length) (st ++ [.lst ds])) : GLk (listGC [.tup ds] st) Q := q
theorem glk_listC_lst (q : Q (.cell st.length) (st ++ [.lst ds])) : GLk (listGC [.lst ds] st) Q := q
theorem glk_list_tup (q : Q (.lst ds) st) : GLk (listG [.tup ds] st) Q := q
theorem set_app {α : Type} (xs : List α) (a b : α) : (xs ++ [a]).set xs.length b = xs ++ [b] := by
  rw [List.set_append_right _ _ (Nat.le_refl _), Nat.sub_self]; rfl
theorem get_lt {c : Cel} {cs : List Cel} (h : st[n]? = some c) : (st ++ cs)[n]? = some c := by
  rw [List.getElem?_append_left (List.getElem?_eq_some_iff.mp h).1]; exact h
theorem lt_of_get {c : Cel} (h : st[n]? = some c) : n < st.length := (List.getElem?_eq_some_iff.mp h).1
/-- an item of a dict by its key -/
theorem lk_ixE {ks : List Key} {x : Str} {Q : D → Prop} (h : st[n]? = some (.dct ks ds)) (e : getK ks ds (.inr x) = some d) (q : Q d) : Lk (ixE (.cell n) (.str x) st) Q := by
  refine lk_some (a := d) ?_ q
  unfold ixE
  have e1 : ixD (.cell n) (.str x) st = none := rfl
  have e2 : ixK (.cell n) (.str x) st = some d := by
    unfold ixK dctB
    simp only [h]
    exact e
  rw [e1, e2]; rfl
theorem put_dct {ks : List Key} {x : Str} {v : D} (h : st[n]? = some (.dct ks ds)) (hl : ks.length < sizeLine ∧ ks.length = ds.length) (hk : hasK ks (.inr x) = true) : putD (.cell n) (.str x) v st = some (st.set n (.dct ks (setK ks ds (.inr x) v))) := by
  unfold putD
  simp only [h]
  show (if ks.length < sizeLine ∧ ks.length = ds.length then some (if hasK ks (.inr x) = true then st.set n (.dct ks (setK ks ds (.inr x) v)) else _) else none) = _
  rw [if_pos hl, if_pos hk]
theorem glk_repr2 {W M N : Nat} {d : D} (b : Bx W M N d) (hW : W ≤ 16000000) (hM : M ≤ 10 ^ 40) (hN : N ≤ 150) (h : Q (.str (py d).shown) st) : GLk (reprG [d] st) Q := by
  obtain ⟨h1, h2, h3⟩ := shown_le b.a (Nat.le_trans b.m hM)
  have e : frz st d = d := by
    cases d with
    | cell n => have := b.a; simp only [asc] at this; cases this
    | _ => rfl
  refine glk_some (d := .str (py d).shown) (st := st) ?_ h
  show (reprB (frz st d)).map _ = _
  rw [e]
  unfold reprB
  rw [if_pos ⟨h2, h3, le_line (by have := b.w; omega), Nat.le_trans b.n hN⟩]
  rfl
theorem ok_pairs_nil {P : List D × List D → Sto → Prop} (h : P ([], []) st) : Ok (mPairs [] en st) P E := h
theorem ok_pairs {mk mv : EM} {r : PM} {P : List D × List D → Sto → Prop} (h : Ok (mk en st) (fun k st => Ok (mv en st) (fun v st => Ok (mPairs r en st) (fun ps st => P (k :: ps.1, v :: ps.2) st) E) E) E) : Ok (mPairs ((mk, mv) :: r) en st) P E :=
  ok_mb (h.to fun k st h => ok_mb (h.to fun v st h => ok_mb (h.to fun ps st h => h)))
theorem ok_dispC {ms : PM} {P : D → Sto → Prop} (h : Ok (mPairs ms en (st ++ [.dct [] []])) (fun ps st' => ∃ ks, keysD ps.1 = some ks ∧ (distinct ks = true ∧ ks.length = ps.2.length ∧ isE st'[st.length]? = true) ∧ P (.cell st.length) (st'.set st.length (.dct ks ps.2))) E) : Ok (mDispC ms en st) P E := ok_mb (h.to fun ps st' h => by
  obtain ⟨ks, h1, h2, h3⟩ := h
  simp only [h1]
  rw [if_pos h2]
  exact h3)
theorem cutD_1 (ds : List D) : cutD ds none (some 1) = ds.take 1 := cutD_hi ds 1
theorem cutD_12 (ds : List D) : cutD ds (some 1) (some 2) = (ds.drop 1).take 1 := by
  unfold cutD
  have e1 : HT.sIx ds.length 0 (some 1) = min 1 ds.length := HT.sIx_nat ds.length 0 1
  have e2 : HT.sIx ds.length ds.length (some 2) = min 2 ds.length := HT.sIx_nat ds.length ds.length 2
  rw [e1, e2]
  match ds with
  | [] => rfl
  | [a] => rfl
  | a :: b :: r =>
    simp only [List.length_cons]
    rw [Nat.min_eq_left (by omega), Nat.min_eq_left (by omega)]
/-- a comprehension that picks -/
theorem lc_filt {α : Type} {gm : GM} {tm : TM} {em : EM} (g : α → D) (p : α → Bool) : ∀ (xs : List α) (acc : List D), (∀ x ∈ xs, ∃ en', gm (g x) en st = some en' ∧ tm en' st = .ok (p x) st ∧ em en' st = .ok (g x) st) → acc.length + xs.length ≤ sizeLine → lcLoop gm tm em en (xs.map g) acc st = .ok (acc ++ (xs.filter p).map g) st
  | [], acc, _, _ => by show Out.ok acc st = _; simp
  | x :: xs, acc, h, hl => by
    obtain ⟨en', h1, h2, h3⟩ := h x (.head _)
    rw [List.length_cons] at hl
    rw [List.map_cons, lcLoop_cons]
    simp only [h1, h2]
    cases e : p x with
    | false =>
      simp only
      rw [lc_filt g p xs acc (fun x hx => h x (.tail _ hx)) (by omega), List.filter_cons, e]; rfl
    | true =>
      simp only [h3]
      rw [if_pos (by omega), lc_filt g p xs (acc ++ [g x]) (fun x hx => h x (.tail _ hx)) (by rw [List.length_append, List.length_singleton]; omega), List.filter_cons, e]
      simp
theorem ok_lc_filt {α : Type} {gm : GM} {tm : TM} {em : EM} {PL : List D → Sto → Prop} (g : α → D) (p : α → Bool) {ds : List D} {xs : List α} (e : ds = xs.map g) (hl : xs.length ≤ sizeLine) (h : ∀ x ∈ xs, ∃ en', gm (g x) en st = some en' ∧ tm en' st = .ok (p x) st ∧ em en' st = .ok (g x) st) (q : PL ((xs.filter p).map g) st) : Ok (lcLoop gm tm em en ds [] st) PL E := by
  subst e
  exact ok_of (lc_filt g p xs [] h (by simpa using hl)) (by simpa using q)
theorem lk_in_str {x y : Str} {Q : D → Prop} (h : Q (.bl (!(Builtin.Str.occurrences y x 0 y.length 1).isEmpty))) : Lk (inD (.str x) (.str y) st) Q := lk_some (a := .bl (!(Builtin.Str.occurrences y x 0 y.length 1).isEmpty)) rfl h
/-- a for over what is told by g', what is done is kept -/
theorem sk_forMap {α : Type} {nx : En → Sto → Prop} {rt : D → Sto → Prop} {bk ct : En → Sto → Prop} {er : ErP} {g : GM} {body : SM} (g' : α → D) (xs : List α) (I : List α → En → Sto → Prop) {ds : List D} (e : ds = xs.map g') (h0 : I [] en st) (hend : ∀ en st, I xs en st → nx en st)
    (hstep : ∀ done x rest en st, xs = done ++ x :: rest → I done en st → Lk (g (g' x) en st) fun en' => Sk (body en' st) ⟨I (done ++ [x]), rt, nx, I (done ++ [x]), er⟩) : Sk (forLoop g body ds en st) ⟨nx, rt, bk, ct, er⟩ := by
  subst e
  refine sk_forLoop (I := fun rest en st => ∃ done rest', xs = done ++ rest' ∧ rest = rest'.map g' ∧ I done en st) (fun en st hh => ?_) (fun d ds en st hh => ?_) _ _ _ ⟨[], xs, rfl, rfl, h0⟩
  · obtain ⟨done, rest', h1, h2, h3⟩ := hh
    cases rest' with
    | nil => rw [List.append_nil] at h1; subst h1; exact hend en st h3
    | cons x r => cases h2
  · obtain ⟨done, rest', h1, h2, h3⟩ := hh
    cases rest' with
    | nil => cases h2
    | cons x r =>
      rw [List.map_cons] at h2
      cases h2
      have q := hstep done x r en st h1 h3
      cases e1 : g (g' x) en st with
      | none => rw [e1] at q; exact q.elim
      | some en' =>
        rw [e1] at q
        have q : Sk (body en' st) ⟨I (done ++ [x]), rt, nx, I (done ++ [x]), er⟩ := q
        have up : ∀ en st, I (done ++ [x]) en st → ∃ d2 r2, xs = d2 ++ r2 ∧ r.map g' = r2.map g' ∧ I d2 en st := fun en st z => ⟨done ++ [x], r, by rw [h1]; simp, rfl, z⟩
        show Sk (body en' st) _
        cases e2 : body en' st with
        | nx en2 st2 => rw [e2] at q; exact up _ _ q
        | ct en2 st2 => rw [e2] at q; exact up _ _ q
        | bk en2 st2 => rw [e2] at q; exact q
        | rt d st2 => rw [e2] at q; exact q
        | err x en2 st2 => rw [e2] at q; exact q
        | bad => rw [e2] at q; exact q
end
end Pd

namespace Pd
open PySem PySem.Spec L2
open PyProof.Rows hiding St
local instance dCPq0 : Codes := ⟨fun _ _ _ _ => .ext fun _ => True, fun _ _ _ _ => ⟨_, rfl⟩, fun _ => "", fun _ => [], []⟩
/-! # draws and names, whatever law -/
local macro_rules | `(tactic| walk_at "d") => `(tactic| first
  | with_reducible refine sk_seq ?_ | with_reducible refine sk_set ?_ | with_reducible refine sk_ite ?_ | with_reducible refine sk_ret ?_ | with_reducible refine sk_nil ?_ | with_reducible refine sk_expr ?_
  | with_reducible refine sk_par ?_ | with_reducible refine sk_asg ?_ | with_reducible refine sk_setIx ?_ | with_reducible refine sk_star ?_ | with_reducible refine sk_for ?_ | with_reducible refine sk_retN ?_
  | with_reducible refine sk_break ?_ | with_reducible refine sk_cont ?_
  | ((with_reducible refine ok_var (d := ?d) ?h ?_); (case h => exact rfl)) | with_reducible refine ok_c ?_ | with_reducible refine ok_nil ?_ | with_reducible refine ok_cons ?_ | with_reducible refine ok_op ?_
  | with_reducible refine ok_opC ?_ | with_reducible refine ok_un ?_ | with_reducible refine ok_unC ?_ | with_reducible refine ok_not ?_ | with_reducible refine ok_and ?_ | with_reducible refine ok_or ?_
  | with_reducible refine ok_chain ?_ | with_reducible refine ok_ite ?_ | with_reducible refine ok_blt ?_ | with_reducible refine ok_call ?_ | with_reducible refine ok_oNone ?_ | with_reducible refine ok_sl ?_
  | with_reducible refine ok_dnew ?_ | with_reducible refine ok_dnewC ?_ | with_reducible refine ok_B ?_ | with_reducible refine ok_tAnd ?_ | with_reducible refine ok_tOr ?_ | with_reducible refine ok_tNot ?_
  | with_reducible refine ok_tYes ?_ | with_reducible refine ok_iAny ?_ | with_reducible refine ok_lc ?_ | with_reducible refine ok_lcC ?_
  | with_reducible refine blk_bl ?_
  | with_reducible refine Cnd.t ?_ | with_reducible refine Cnd.f ?_ | with_reducible refine Cnd.nt ?_ | with_reducible refine Cnd.nf ?_
  | with_reducible refine lk_add_int ?_ | with_reducible refine lk_sub_int ?_ | with_reducible refine lk_lt_int ?_ | with_reducible refine lk_le_int ?_ | with_reducible refine lk_gt_int ?_ | with_reducible refine lk_ge_int ?_
  | (with_reducible refine ok_tup ?_) | (with_reducible refine ok_lst ?_) | (with_reducible refine ok_lstC ?_)
  | (with_reducible refine ok_mt ?_) | (with_reducible refine ok_repl ?_)
  | (with_reducible refine ok_neg ?_) | (with_reducible refine ok_oSome ?_)
  | (with_reducible refine ok_iRng1 ?_) | (with_reducible refine ok_iRng2 ?_)
  | (with_reducible refine ⟨_, rfl, ?_⟩)
  | (refine ⟨by first | rfl | decide, ?_⟩))
local macro_rules | `(tactic| walk_at "e") => `(tactic| first
  | walk_at "d"
  | with_reducible refine lk_isi_str (by assumption) ?_ | with_reducible refine lk_isi_int (by assumption) ?_ | with_reducible refine lk_isi_bool (by assumption) ?_ | with_reducible refine lk_isi_tuple (by assumption) ?_
  | with_reducible refine lk_eq_str ?_ | with_reducible refine lk_ne_str ?_ | with_reducible refine lk_eq_int ?_ | with_reducible refine lk_ne_int ?_ | with_reducible refine lk_eq_nil ?_ | with_reducible refine lk_ne_nil ?_
  | with_reducible refine lk_eq_tnil ?_ | with_reducible refine lk_ne_tnil ?_ | with_reducible refine lk_in_strs rfl ?_ | with_reducible refine lk_nin_strs rfl ?_
  | ((with_reducible refine lk_ixt (a := ?a) ?h ?_); (case h => exact rfl)) | ((with_reducible refine lk_ixl (a := ?a) ?h ?_); (case h => exact rfl))
  | with_reducible refine glk_len_tup ?_ | with_reducible refine glk_len_lst ?_ | with_reducible refine glk_len_str (le_line (by omega)) ?_)
def bDeck : SM := sSeq (sSet 1 (mBlt listG (lCons (mSl (mVar 0) (oNone) (oSome (mC (.int 63)))) (lNil)))) (sRet (mLstC (lCons (mUnC revD (mVar 1)) (lCons (mOp addD (mBlt sumG (lCons (mLc (iAny (mVar 1)) (gmName 2) (tmYes) (mOp modD (mVar 2) (mC (.int 1000033))) [2]) (lNil))) (mOp mulD (mC (.int 6007)) (mBlt lenG (lCons (mVar 1) (lNil))))) (lCons (mC (.int 0)) (lNil))))))
def bDraw : SM := sSeq (sSetIx (mVar 0) (mC (.int 2)) (mOp addD (mOp ixD (mVar 0) (mC (.int 2))) (mC (.int 1)))) (sSeq (sSet 2 (mOp ixD (mVar 0) (mC (.int 1)))) (sSeq (sIf (mB (mOp neD (mOp ixD (mVar 0) (mC (.int 0))) (mLst (lNil)))) (sSeq (sSet 2 (mMt "list" popG (mOp ixD (mVar 0) (mC (.int 0))) lNil)) (sIf (mB (mOp geD (mVar 2) (mOp powD (mC (.int 10)) (mC (.int 18))))) (sSeq (sExpr (mMt "list" appendG (mOp ixD (mVar 0) (mC (.int 0))) (lCons (mOp fdivD (mVar 2) (mVar 1)) (lNil)))) (sRet (mOp modD (mVar 2) (mVar 1)))) (sNil))) (sNil)) (sSeq (sSet 3 (mOp modD (mOp mulD (mOp addD (mOp addD (mOp modD (mVar 2) (mC (.int 2147483629))) (mOp mulD (mC (.int 92821)) (mOp ixD (mVar 0) (mC (.int 2))))) (mC (.int 17))) (mC (.int 48271))) (mC (.int 2147483647)))) (sSeq (sSet 3 (mOp modD (mOp addD (mOp addD (mOp mulD (mVar 3) (mVar 3)) (mOp mulD (mC (.int 69621)) (mOp ixD (mVar 0) (mC (.int 2))))) (mC (.int 29))) (mC (.int 2147483587)))) (sRet (mOp modD (mOp fdivD (mOp modD (mOp addD (mOp mulD (mVar 3) (mVar 3)) (mOp mulD (mC (.int 40692)) (mVar 3))) (mC (.int 2147483563))) (mC (.int 64))) (mVar 1)))))))
def bName (dr : FM) : SM := sSeq (sSet 1 (mC (.str "abcdefghijklmnopqrstuvwxyz"))) (sSeq (sSet 2 (mOp ixD (mLst (lCons (mC (.int 1)) (lCons (mC (.int 8)) (lCons (mOp addD (mC (.int 1)) (mCall dr 2 (lCons (mVar 0) (lCons (mC (.int 8)) (lNil))))) (lCons (mC (.int 2)) (lNil)))))) (mCall dr 2 (lCons (mVar 0) (lCons (mC (.int 4)) (lNil)))))) (sSeq (sSet 3 (mCall dr 2 (lCons (mVar 0) (lCons (mC (.int 26)) (lNil))))) (sSeq (sSet 4 (mCall dr 2 (lCons (mVar 0) (lCons (mC (.int 3)) (lNil))))) (sRet (mMt "str" joinG (mC (.str "")) (lCons (mLc (iRng1 (mVar 2)) (gmName 5) (tmYes) (mOp ixD (mVar 1) (mOp modD (mOp addD (mVar 3) (mOp mulD (mVar 4) (mVar 5))) (mC (.int 26)))) [5]) (lNil)))))))
def bFar (dr nm : FM) : SM := sSeq (sSet 1 (mOp ixD (mLst (lCons (mC (.int 1)) (lCons (mC (.int 9)) (lCons (mC (.int 10)) (lCons (mOp addD (mC (.int 1)) (mCall dr 2 (lCons (mVar 0) (lCons (mC (.int 120)) (lNil))))) (lCons (mOp powD (mC (.int 10)) (mC (.int 39))) (lNil))))))) (mCall dr 2 (lCons (mVar 0) (lCons (mC (.int 5)) (lNil)))))) (sRet (mOp addD (mOp addD (mOp addD (mOp addD (mCall nm 1 (lCons (mVar 0) (lNil))) (mC (.str "."))) (mBlt strG (lCons (mVar 1) (lNil)))) (mC (.str "."))) (mCall nm 1 (lCons (mVar 0) (lNil)))))
def bCalled (dr far nm : FM) : SM := sRet (mIf (mB (mOp eqD (mCall dr 2 (lCons (mVar 0) (lCons (mC (.int 3)) (lNil)))) (mC (.int 0)))) (mCall far 1 (lCons (mVar 0) (lNil))) (mCall nm 1 (lCons (mVar 0) (lNil))))
theorem deck_ok {ns : List Int} (hl : ns.length ≤ 63) {E : ErP} : Ok (fnM 3 bDeck [.scr ns] []) (fun d st => ∃ n m, d = .cell n ∧ Dk st n m 0) E := by
  refine ok_fn (en := [some (.scr ns), none, none]) rfl ?_
  unfold bDeck
  repeat walk_at "d"
  refine lk_some (a := .lst (iL (ns.take 63))) ?_ ?_
  · show some (D.lst (cutD (iL ns) none (some ((63 : Nat) : Int)))) = _
    rw [cutD_hi]; unfold iL; rw [List.map_take]
  repeat walk_at "d"
  refine glk_some (d := .lst (iL (ns.take 63))) (st := []) rfl ?_
  repeat walk_at "d"
  refine lk_some (a := .lst (iL (ns.take 63).reverse)) ?_ ⟨_, rfl, ?_⟩
  · show some (D.lst (iL (ns.take 63)).reverse) = _
    unfold iL; rw [List.map_reverse]
  repeat walk_at "d"
  refine lk_some (a := iL (ns.take 63)) rfl ?_
  have hl2 : (ns.take 63).length ≤ 63 := by rw [List.length_take]; omega
  refine sum_loop (fun d en st => rfl) (fun i st => ⟨i % 1000033, rfl⟩) hl2 fun ms => ?_
  repeat walk_at "d"
  refine glk_sum ?_
  repeat walk_at "d"
  refine glk_len_lst ?_
  rw [iL_len]
  refine lk_mul_small (by omega) (by omega) (by omega) (by omega) ?_
  repeat walk_at "d"
  refine ⟨le_line (by show 3 ≤ 16777216; decide), 1, 0, rfl, ⟨(ns.take 63).reverse, _, 0, by decide, rfl, rfl, by rw [List.length_reverse]; exact hl2, Int.le_refl _, Int.le_refl _⟩⟩
theorem draw_ok {st : Sto} {n m : Nat} {t w : Int} (h : Dk st n m t) (ht : t ≤ 10 ^ 20) (h0 : 0 < w) (h1 : w ≤ 10 ^ 6) {E : ErP} :
    Ok (fnM 4 bDraw [.cell n, .int w] st) (fun d st' => ∃ i : Int, d = .int i ∧ 0 ≤ i ∧ i < w ∧ Dk st' n m (t + 1) ∧ Fr n m st st') E := by
  obtain ⟨ns, s, u, hnm, hn, hm, hl, hu, hut⟩ := h
  refine ok_fn (en := [some (.cell n), some (.int w), none, none]) rfl ?_
  unfold bDraw
  repeat walk_at "d"
  refine lk_some (ix_cell hn (i := 2) rfl) ?_
  repeat walk_at "d"
  refine ⟨n, 2, _, 2, rfl, rfl, hn, rfl, ?_⟩
  have hn1 := get_set (c' := .lst ([.cell m, .int s, .int u].set 2 (.int (u + 1)))) hn
  have hm1 : (st.set n (.lst ([.cell m, .int s, .int u].set 2 (.int (u + 1)))))[m]? = some (.lst (iL ns)) := get_ne hm hnm
  have fr1 : Fr n m st (st.set n (.lst ([.cell m, .int s, .int u].set 2 (.int (u + 1))))) := Fr.set1 _
  generalize st.set n (.lst ([.cell m, .int s, .int u].set 2 (.int (u + 1)))) = st1 at hn1 hm1 fr1
  have hn1 : st1[n]? = some (.lst [.cell m, .int s, .int (u + 1)]) := hn1
  repeat walk_at "d"
  refine lk_some (ix_cell hn1 (i := 1) rfl) ?_
  have hne : neD (.cell m) (.lst []) st1 = some (.bl (!(ns.isEmpty))) := by
    unfold neD
    rw [deref_cell, hm1]
    cases ns <;> rfl
  refine sk_cut (fun en st2 => (∃ c : Int, en = [some (.cell n), some (.int w), some (.int c), none]) ∧ st2[n]? = some (.lst [.cell m, .int s, .int (u + 1)]) ∧ (∃ ms : List Int, ms.length ≤ 63 ∧ st2[m]? = some (.lst (iL ms))) ∧ Fr n m st st2) ?_ ?_
  · repeat walk_at "d"
    refine lk_some (ix_cell hn1 (i := 0) rfl) ?_
    repeat walk_at "d"
    refine lk_some hne ?_
    repeat walk_at "d"
    refine Cnd.of (fun c => ?_) (fun c => ?_)
    · have hns : ns ≠ [] := by intro z; subst z; cases c
      obtain ⟨ms, v, rfl⟩ : ∃ ms v, ns = ms ++ [v] := ⟨ns.dropLast, ns.getLast hns, (List.dropLast_concat_getLast hns).symm⟩
      have eL : iL (ms ++ [v]) = iL ms ++ [.int v] := by unfold iL; rw [List.map_append]; rfl
      repeat walk_at "d"
      refine lk_some (ix_cell hn1 (i := 0) rfl) ?_
      have ty : tyM "list" st1 (.cell m) = true := by
        show (match st1[m]? with | some (.lst _) => decide ("list" = "list") | some (.dct _ _) => decide ("list" = "dict") | _ => false) = true
        rw [hm1]; rfl
      refine ⟨ty, ?_⟩
      repeat walk_at "d"
      rw [eL] at hm1
      refine glk_some (d := .int v) (st := st1.set m (.lst (iL ms))) ?_ ?_
      · show (match st1[m]? with | some (.lst es) => (es[es.length - 1]?).map fun d => (d, st1.set m (.lst es.dropLast)) | _ => none) = _
        rw [hm1]
        simp
      have hn2 : (st1.set m (.lst (iL ms)))[n]? = some (.lst [.cell m, .int s, .int (u + 1)]) := get_ne hn1 (Ne.symm hnm)
      have hm2 : (st1.set m (.lst (iL ms)))[m]? = some (.lst (iL ms)) := get_set hm1
      have fr2 : Fr n m st (st1.set m (.lst (iL ms))) := fr1.trans (Fr.set2 _)
      generalize st1.set m (.lst (iL ms)) = st2 at hn2 hm2 fr2
      have hl2 : ms.length + 1 ≤ 63 := by rw [List.length_append] at hl; exact hl
      repeat walk_at "d"
      refine lk_pow (by decide) ?_
      repeat walk_at "d"
      refine Cnd.of (fun c2 => ?_) (fun c2 => ?_)
      · repeat walk_at "d"
        refine lk_some (ix_cell hn2 (i := 0) rfl) ?_
        have ty : tyM "list" st2 (.cell m) = true := by
          show (match st2[m]? with | some (.lst _) => decide ("list" = "list") | some (.dct _ _) => decide ("list" = "dict") | _ => false) = true
          rw [hm2]; rfl
        refine ⟨ty, ?_⟩
        repeat walk_at "d"
        refine lk_fdiv h0 (Nat.lt_of_lt_of_le (log2_small (by omega) (by omega)) (by decide)) ?_
        repeat walk_at "d"
        refine glk_some (d := .non) (st := st2.set m (.lst (iL ms ++ [.int (v / w)]))) ?_ ?_
        · show (match st2[m]? with | some (.lst es) => if es.length < sizeLine then some (D.non, st2.set m (.lst (es ++ [D.int (v / w)]))) else none | _ => none) = _
          rw [hm2]
          exact if_pos (Nat.lt_of_lt_of_le (by rw [iL_len]; omega) (le_line (n := 64) (by decide)))
        repeat walk_at "d"
        refine lk_mod h0 ?_
        refine ⟨_, rfl, Int.emod_nonneg _ (by omega), Int.emod_lt_of_pos _ h0, ⟨ms ++ [v / w], s, u + 1, hnm, get_ne hn2 (Ne.symm hnm), ?_, ?_, by omega, by omega⟩, fr2.trans (Fr.set2 _)⟩
        · rw [get_set hm2]; unfold iL; rw [List.map_append]; rfl
        · rw [List.length_append]; exact hl2
      · repeat walk_at "d"
        exact ⟨⟨v, rfl⟩, hn2, ⟨ms, by omega, hm2⟩, fr2⟩
    · repeat walk_at "d"
      exact ⟨⟨s, rfl⟩, hn1, ⟨ns, hl, hm1⟩, fr1⟩
  rintro _ st2 ⟨⟨c, rfl⟩, hn2, ⟨ms, hl2, hm2⟩, fr2⟩
  repeat walk_at "d"
  refine lk_mod_gen (by decide) fun r1 _ _ => ?_
  repeat walk_at "d"
  refine lk_some (ix_cell hn2 (i := 2) rfl) ?_
  refine lk_mul_small (by omega) (by omega) (by omega) (by omega) ?_
  repeat walk_at "d"
  refine lk_mul_small (by omega) (by omega) (by omega) (by omega) ?_
  repeat walk_at "d"
  refine lk_mod_gen (by decide) fun r2 _ _ => ?_
  repeat walk_at "d"
  refine lk_mul_small (by omega) (by omega) (by omega) (by omega) ?_
  repeat walk_at "d"
  refine lk_some (ix_cell hn2 (i := 2) rfl) ?_
  refine lk_mul_small (by omega) (by omega) (by omega) (by omega) ?_
  repeat walk_at "d"
  refine lk_mod_gen (by decide) fun r3 _ _ => ?_
  repeat walk_at "d"
  refine lk_mul_small (by omega) (by omega) (by omega) (by omega) ?_
  repeat walk_at "d"
  refine lk_mul_small (by omega) (by omega) (by omega) (by omega) ?_
  repeat walk_at "d"
  refine lk_mod_gen (by decide) fun r4 _ _ => ?_
  repeat walk_at "d"
  refine lk_fdiv (by decide) (by decide) ?_
  repeat walk_at "d"
  refine lk_mod_gen h0 fun r5 _ _ => ?_
  exact ⟨r5, rfl, by assumption, by assumption, ⟨ms, s, u + 1, hnm, hn2, hm2, hl2, by omega, by omega⟩, fr2⟩
structure DrawF (dr : FM) : Prop where
  h : ∀ {st : Sto} {n m : Nat} {t w : Int} (h : Dk st n m t) (ht : t ≤ 10 ^ 20) (h0 : 0 < w) (h1 : w ≤ 10 ^ 6) {E : ErP}, Ok (dr [.cell n, .int w] st) (fun d st' => ∃ i : Int, d = .int i ∧ 0 ≤ i ∧ i < w ∧ Dk st' n m (t + 1) ∧ Fr n m st st') E
theorem drawF : DrawF (fnM 4 bDraw) := ⟨draw_ok⟩
theorem rng0 (n : Nat) : rng 0 n = (List.range n).map fun i => D.int (i : Nat) := by unfold rng; simp
theorem join_cs : ∀ ys : List Str, cs (Txt.join (Str.ofString "") ys) = (ys.map cs).flatten := fun ys => by
  show cs (Builtin.Str.glued _ ys) = _
  rw [StrLaws.glued_eq_join]
  induction ys with
  | nil => decide +kernel
  | cons y ys ih =>
    cases ys with
    | nil => show cs y = _; simp
    | cons z zs =>
      have e : Str.join (Str.ofString "") (y :: z :: zs) = y ++ Str.ofString "" ++ Str.join (Str.ofString "") (z :: zs) := rfl
      have e0 : cs (Str.ofString "") = [] := by decide +kernel
      rw [e, cs_app, cs_app, e0, ih]
      simp
theorem strsD_map (ys : List Str) : strsD (ys.map D.str) = some ys := by
  induction ys with
  | nil => rfl
  | cons y ys ih => show (strsD (ys.map D.str)).map (y :: ·) = _; rw [ih]; rfl
theorem letters_len : (Str.ofString "abcdefghijklmnopqrstuvwxyz").length = 26 := by decide +kernel
theorem name_gen {dr : FM} (hdr : DrawF dr) {st : Sto} {n m : Nat} {t : Int} (D0 : Dk st n m t) (ht : t ≤ 10 ^ 19) {E : ErP} :
    Ok (fnM 6 (bName dr) [.cell n] st) (fun d st' => ∃ x, d = .str x ∧ isNm x = true ∧ Dk st' n m (t + 4) ∧ Fr n m st st') E := by
  refine ok_fn (en := [some (.cell n), none, none, none, none, none]) rfl ?_
  unfold bName
  repeat walk_at "e"
  refine (hdr.h D0 (by omega) (by decide) (by decide)).to ?_
  rintro _ st1 ⟨i, rfl, h0, h1, D1, F1⟩
  repeat walk_at "e"
  refine ⟨le_line (by show 4 ≤ 16777216; decide), ?_⟩
  refine (hdr.h D1 (by omega) (by decide) (by decide)).to ?_
  rintro _ st2 ⟨j, rfl, j0, j1, D2, F2⟩
  repeat walk_at "e"
  refine lk_ix_lst j0 (by show j < 4; exact j1) fun d hd _ => ?_
  obtain ⟨w, rfl, w1, w2⟩ : ∃ w : Int, d = .int w ∧ 1 ≤ w ∧ w ≤ 8 := by
    have : d = .int 1 ∨ d = .int 8 ∨ d = .int (1 + i) ∨ d = .int 2 := by simpa using hd
    rcases this with rfl | rfl | rfl | rfl
    · exact ⟨_, rfl, by decide, by decide⟩
    · exact ⟨_, rfl, by decide, by decide⟩
    · exact ⟨_, rfl, by omega, by omega⟩
    · exact ⟨_, rfl, by decide, by decide⟩
  repeat walk_at "e"
  refine (hdr.h D2 (by omega) (by decide) (by decide)).to ?_
  rintro _ st3 ⟨f, rfl, f0, f1, D3, F3⟩
  repeat walk_at "e"
  refine (hdr.h D3 (by omega) (by decide) (by decide)).to ?_
  rintro _ st4 ⟨g, rfl, g0, g1, D4, F4⟩
  repeat walk_at "e"
  refine ⟨by omega, by omega, ?_⟩
  refine ok_lcLoop (I := fun acc rest st' => st' = st4 ∧ ∃ (ys : List Str) (a : Nat), acc = ys.map D.str ∧ rest = ((List.range w.toNat).map fun i => D.int (i : Nat)).drop a ∧ ys.length = a ∧ a ≤ w.toNat ∧ ∀ y ∈ ys, ∃ c, y = ⟨#[c]⟩ ∧ lett c = true) (fun acc st' h => ?_) (fun d ds acc st' h => ?_) _ _ _ ⟨rfl, [], 0, rfl, by rw [rng0]; rfl, rfl, Nat.zero_le _, fun _ z => nomatch z⟩
  · obtain ⟨rfl, ys, a, rfl, h1, h2, h3, h4⟩ := h
    have ha : a = w.toNat := by
      have := congrArg List.length h1
      rw [List.length_drop, List.length_map, List.length_range, List.length_nil] at this
      omega
    repeat walk_at "e"
    have hcs : cs (Txt.join (Str.ofString "") ys) = (ys.map cs).flatten := join_cs ys
    have hlen : (Txt.join (Str.ofString "") ys).length = ys.length := by
      rw [← cs_len, hcs]
      clear h1 h2 hcs
      induction ys with
      | nil => rfl
      | cons y ys ih =>
        obtain ⟨c, rfl, _⟩ := h4 y (.head _)
        rw [List.map_cons, List.flatten_cons, List.length_append, ih (fun z hz => h4 z (.tail _ hz))]
        show 1 + ys.length = ys.length + 1
        omega
    refine glk_some (d := .str (Txt.join (Str.ofString "") ys)) (st := st') ?_ ?_
    · show ((some (ys.map D.str)).bind strsD).bind _ = _
      show (strsD (ys.map D.str)).bind _ = _
      rw [strsD_map]
      refine if_pos ?_
      have : (ys.map (·.length)).sum = ys.length := by
        clear h1 h2 hcs hlen
        induction ys with
        | nil => rfl
        | cons y ys ih =>
          obtain ⟨c, rfl, _⟩ := h4 y (.head _)
          rw [List.map_cons, List.sum_cons, ih (fun z hz => h4 z (.tail _ hz))]
          show 1 + ys.length = ys.length + 1
          omega
      rw [this]
      have e0 : (Str.ofString "").length = 0 := by decide +kernel
      rw [e0]
      omega
    · refine ⟨_, rfl, ?_, D4.more (by omega), ((F1.trans F2).trans F3).trans F4⟩
      unfold isNm
      rw [hlen, hcs]
      simp only [Bool.and_eq_true, decide_eq_true_eq, List.all_eq_true]
      refine ⟨⟨by omega, by omega⟩, fun c hc => ?_⟩
      obtain ⟨l, hl, hcl⟩ := List.mem_flatten.mp hc
      obtain ⟨y, hy, rfl⟩ := List.mem_map.mp hl
      obtain ⟨c', rfl, hc'⟩ := h4 y hy
      have : c = c' := by simpa [cs] using hcl
      rw [this]; exact hc'
  · obtain ⟨rfl, ys, a, rfl, h1, h2, h3, h4⟩ := h
    have ha : a < w.toNat := by
      have := congrArg List.length h1
      rw [List.length_drop, List.length_map, List.length_range, List.length_cons] at this
      omega
    have hd : d = .int (a : Nat) ∧ ds = ((List.range w.toNat).map fun i => D.int (i : Nat)).drop (a + 1) := by
      have hl : a < ((List.range w.toNat).map fun i => D.int (i : Nat)).length := by simpa using ha
      rw [List.drop_eq_getElem_cons hl] at h1
      injection h1 with q1 q2
      exact ⟨by rw [q1]; simp, q2⟩
    obtain ⟨rfl, rfl⟩ := hd
    refine lk_some rfl ?_
    repeat walk_at "e"
    refine lk_mul_small (by omega) (by omega) (by omega) (by omega) ?_
    repeat walk_at "e"
    refine lk_mod_gen (by decide) fun r r0 r1 => ?_
    refine lk_ix_str (le_line (by rw [letters_len]; decide)) r0 (by rw [letters_len]; exact r1) fun c hc _ => ?_
    refine ⟨Nat.lt_of_lt_of_le (by rw [List.length_map]; omega) (le_line (n := 10) (by decide)), rfl, ys ++ [⟨#[c]⟩], a + 1, by rw [List.map_append]; rfl, rfl, by rw [List.length_append, h2]; rfl, by omega, fun y hy => ?_⟩
    rcases List.mem_append.mp hy with hy | hy
    · exact h4 y hy
    · obtain rfl := List.mem_singleton.mp hy
      refine ⟨c, rfl, ?_⟩
      have : c ∈ cs (Str.ofString "abcdefghijklmnopqrstuvwxyz") := hc
      rw [letters_cs] at this
      obtain ⟨i', hi', rfl⟩ := List.mem_map.mp this
      have := List.mem_range.mp hi'
      unfold lett
      simp only [Bool.and_eq_true, decide_eq_true_eq]
      omega
structure NameF (nm : FM) : Prop where
  h : ∀ {st : Sto} {n m : Nat} {t : Int} (D0 : Dk st n m t) (ht : t ≤ 10 ^ 19) {E : ErP}, Ok (nm [.cell n] st) (fun d st' => ∃ x, d = .str x ∧ isNm x = true ∧ Dk st' n m (t + 4) ∧ Fr n m st st') E
theorem nameF {dr : FM} (hd : DrawF dr) : NameF (fnM 6 (bName dr)) := ⟨name_gen hd⟩
theorem nm_facts {x : Str} (h : isNm x = true) : 1 ≤ x.length ∧ x.length ≤ 8 ∧ ∀ c ∈ cs x, c < 128 := by
  unfold isNm at h
  simp only [Bool.and_eq_true, decide_eq_true_eq, List.all_eq_true] at h
  refine ⟨h.1.1, h.1.2, fun c hc => ?_⟩
  have := h.2 c hc
  unfold lett at this
  simp only [Bool.and_eq_true, decide_eq_true_eq] at this
  omega
theorem figs_facts {x : Str} (h : figs x = true) : 1 ≤ x.length ∧ x.length ≤ 40 ∧ ∀ c ∈ cs x, c < 128 := by
  unfold figs at h
  simp only [Bool.and_eq_true, decide_eq_true_eq, List.all_eq_true] at h
  refine ⟨h.1.1.1, h.1.1.2, fun c hc => ?_⟩
  have := h.1.2 c hc
  unfold fig at this
  simp only [Bool.and_eq_true, decide_eq_true_eq] at this
  omega
def asS (x : Str) : Prop := ∀ c ∈ cs x, c < 128
theorem asS.app {x y : Str} (h : asS x) (h' : asS y) : asS (x ++ y) := fun c hc => by
  rw [cs_app] at hc
  rcases List.mem_append.mp hc with q | q
  · exact h c q
  · exact h' c q
theorem asS_lit {s : String} (h : ((Str.ofString s).cps.toList.all fun c => decide (c < 128)) = true) : asS (Str.ofString s) := fun c hc => of_decide_eq_true (List.all_eq_true.mp h c hc)
theorem asc_str {x : Str} (h : asS x) : asc (.str x) = true := by
  simp only [asc]
  exact List.all_eq_true.mpr fun c hc => decide_eq_true (h c hc)
theorem Bx.str {x : Str} (h : asS x) {W M N : Nat} (hw : 10 * x.length + 8 ≤ W) : Bx W M N (.str x) := ⟨asc_str h, by simp only [wt]; exact hw, by simp only [mx]; omega, Nat.zero_le _⟩
theorem Bx.int {i : Int} {W M N : Nat} (hm : i.natAbs ≤ M) (hw : 500 ≤ W) : Bx W M N (.int i) := ⟨by simp only [asc], by simp only [wt]; exact hw, by simp only [mx]; exact hm, Nat.zero_le _⟩
theorem dot1 : (Str.ofString ".").length = 1 := by decide +kernel
theorem far_gen {dr nm : FM} (hdr : DrawF dr) (hn : NameF nm) {st : Sto} {n m : Nat} {t : Int} (D0 : Dk st n m t) (ht : t ≤ 10 ^ 18) {E : ErP} :
    Ok (fnM 2 (bFar dr nm) [.cell n] st) (fun d st' => ∃ x, d = .str x ∧ isFarS x = true ∧ x.length ≤ 60 ∧ asS x ∧ Dk st' n m (t + 20) ∧ Fr n m st st') E := by
  refine ok_fn (en := [some (.cell n), none]) rfl ?_
  unfold bFar
  repeat walk_at "e"
  refine (hdr.h D0 (by omega) (by decide) (by decide)).to ?_
  rintro _ st1 ⟨i, rfl, h0, h1, D1, F1⟩
  repeat walk_at "e"
  refine lk_pow (by decide) ?_
  refine ⟨le_line (by show 5 ≤ 16777216; decide), ?_⟩
  refine (hdr.h D1 (by omega) (by decide) (by decide)).to ?_
  rintro _ st2 ⟨j, rfl, j0, j1, D2, F2⟩
  repeat walk_at "e"
  refine lk_ix_lst j0 (by show j < 5; exact j1) fun d hd _ => ?_
  obtain ⟨w, rfl, w1, w2⟩ : ∃ w : Int, d = .int w ∧ 1 ≤ w ∧ w ≤ 10 ^ 39 := by
    have : d = .int 1 ∨ d = .int 9 ∨ d = .int 10 ∨ d = .int (1 + i) ∨ d = .int (10 ^ (39 : Int).toNat) := by simpa using hd
    rcases this with rfl | rfl | rfl | rfl | rfl
    · exact ⟨_, rfl, by decide, by decide⟩
    · exact ⟨_, rfl, by decide, by decide⟩
    · exact ⟨_, rfl, by decide, by decide⟩
    · exact ⟨_, rfl, by omega, by omega⟩
    · exact ⟨_, rfl, by decide, by decide⟩
  have fg := figs_facts (figs_text w1 w2)
  repeat walk_at "e"
  refine (hn.h D2 (by omega)).to ?_
  rintro _ st3 ⟨a, rfl, ha, D3, F3⟩
  have na := nm_facts ha
  repeat walk_at "e"
  refine lk_add_str (le_line (by rw [dot1]; omega)) ?_
  repeat walk_at "e"
  refine glk_some (d := .str (toString w)) (st := st3) (if_pos ?_) ?_
  · have := log2_small (i := w) (by omega) (by omega); omega
  refine lk_add_str (le_line (by rw [len_app, dot1]; omega)) ?_
  repeat walk_at "e"
  refine lk_add_str (le_line (by rw [len_app, len_app, dot1]; omega)) ?_
  refine (hn.h D3 (by omega)).to ?_
  rintro _ st4 ⟨b, rfl, hb, D4, F4⟩
  have nb := nm_facts hb
  refine lk_add_str (le_line (by rw [len_app, len_app, len_app, dot1]; omega)) ?_
  refine ⟨_, rfl, far_good ha hb w1 w2, ?_, ?_, D4.more (by omega), ((F1.trans F2).trans F3).trans F4⟩
  · rw [len_app, len_app, len_app, len_app, dot1]; omega
  · have hd : asS (Str.ofString ".") := asS_lit (by decide +kernel)
    exact (((asS.app na.2.2 hd).app fg.2.2).app hd).app nb.2.2
structure FarF (fr : FM) : Prop where
  h : ∀ {st : Sto} {n m : Nat} {t : Int} (D0 : Dk st n m t) (ht : t ≤ 10 ^ 18) {E : ErP}, Ok (fr [.cell n] st) (fun d st' => ∃ x, d = .str x ∧ isFarS x = true ∧ x.length ≤ 60 ∧ asS x ∧ Dk st' n m (t + 20) ∧ Fr n m st st') E
theorem farF {dr nm : FM} (hd : DrawF dr) (hn : NameF nm) : FarF (fnM 2 (bFar dr nm)) := ⟨far_gen hd hn⟩
theorem called_gen {dr fr nm : FM} (hdr : DrawF dr) (hf : FarF fr) (hn : NameF nm) {st : Sto} {n m : Nat} {t : Int} (D0 : Dk st n m t) (ht : t ≤ 10 ^ 17) {E : ErP} :
    Ok (fnM 1 (bCalled dr fr nm) [.cell n] st) (fun d st' => ∃ x, d = .str x ∧ (isNm x || isFarS x) = true ∧ x.length ≤ 60 ∧ asS x ∧ Dk st' n m (t + 30) ∧ Fr n m st st') E := by
  refine ok_fn (en := [some (.cell n)]) rfl ?_
  unfold bCalled
  repeat walk_at "e"
  refine (hdr.h D0 (by omega) (by decide) (by decide)).to ?_
  rintro _ st1 ⟨i, rfl, h0, h1, D1, F1⟩
  repeat walk_at "e"
  refine Cnd.of (fun c => ?_) (fun c => ?_)
  · repeat walk_at "e"
    refine (hf.h D1 (by omega)).to ?_
    rintro _ st2 ⟨x, rfl, hx, hl, hs, D2, F2⟩
    exact ⟨x, rfl, by rw [hx]; simp, hl, hs, D2.more (by omega), F1.trans F2⟩
  · repeat walk_at "e"
    refine (hn.h D1 (by omega)).to ?_
    rintro _ st2 ⟨x, rfl, hx, D2, F2⟩
    have := nm_facts hx
    exact ⟨x, rfl, by rw [hx]; rfl, by omega, this.2.2, D2.more (by omega), F1.trans F2⟩
structure CalledF (ca : FM) : Prop where
  h : ∀ {st : Sto} {n m : Nat} {t : Int} (D0 : Dk st n m t) (ht : t ≤ 10 ^ 17) {E : ErP}, Ok (ca [.cell n] st) (fun d st' => ∃ x, d = .str x ∧ (isNm x || isFarS x) = true ∧ x.length ≤ 60 ∧ asS x ∧ Dk st' n m (t + 30) ∧ Fr n m st st') E
theorem calledF {dr fr nm : FM} (hd : DrawF dr) (hf : FarF fr) (hn : NameF nm) : CalledF (fnM 1 (bCalled dr fr nm)) := ⟨called_gen hd hf hn⟩
theorem litB {s : String} {M N : Nat} (h : ((Str.ofString s).cps.toList.all fun c => decide (c < 128)) = true) (hl : (Str.ofString s).length ≤ 10) : Bx 108 M N (.str (Str.ofString s)) := Bx.str (asS_lit h) (by omega)
theorem wtL_le {W : Nat} : ∀ {ds : List D}, (∀ d ∈ ds, wt d ≤ W) → wtL ds ≤ ds.length * (W + 4)
  | [], _ => by rw [wtL_nil]; omega
  | d :: ds, h => by
    rw [wtL_cons, List.length_cons, Nat.add_mul]
    have h1 := h d (.head _)
    have h2 := wtL_le fun e he => h e (.tail _ he)
    omega
end Pd

namespace Lw
open PySem PySem.Spec L2 Pd
noncomputable section
def top (i : Nat) : Stmt := PySem.Challenge.pw_walksbyworth_k06_refusals_made.main.body.getD i (.Pass ⟨0, 0, 0, 0⟩)
abbrev s0 : Stmt := top 28
abbrev s1 : Stmt := top 29
abbrev s2 : Stmt := top 31
abbrev s3 : Stmt := top 32
abbrev s4 : Stmt := top 33
abbrev s5 : Stmt := top 34
abbrev s6 : Stmt := top 35
abbrev s7 : Stmt := top 36
abbrev s8 : Stmt := top 37
abbrev s9 : Stmt := top 38
abbrev s10 : Stmt := top 39
abbrev s11 : Stmt := top 40
def psOf : Nat → List Str
  | 0 => ["script"]
  | 1 => ["deck", "ways"]
  | 2 => ["deck"]
  | 3 => ["deck"]
  | 4 => ["deck"]
  | 5 => ["e"]
  | 6 => ["k", "one", "two"]
  | 7 => ["k", "one"]
  | 8 => ["k", "e"]
  | 9 => ["deck", "k"]
  | 10 => ["k"]
  | 11 => ["script"]
  | _ => []
def psC : Nat → List Str
  | _ => []
def rg (R : Nat → FM) (x : Str) : Option (Nat × FM) := none
def clsBody : Stmt → List Stmt | .ClassDef (body := b) .. => b | _ => []
abbrev xm4 : Stmt := (clsBody (top 5)).getD 0 (.Pass ⟨0, 0, 0, 0⟩)
abbrev xm5 : Stmt := (clsBody (top 6)).getD 0 (.Pass ⟨0, 0, 0, 0⟩)
abbrev xm6 : Stmt := (clsBody (top 7)).getD 0 (.Pass ⟨0, 0, 0, 0⟩)
abbrev xm7 : Stmt := (clsBody (top 8)).getD 0 (.Pass ⟨0, 0, 0, 0⟩)
abbrev xm8 : Stmt := (clsBody (top 9)).getD 0 (.Pass ⟨0, 0, 0, 0⟩)
abbrev xm9 : Stmt := (clsBody (top 10)).getD 0 (.Pass ⟨0, 0, 0, 0⟩)
abbrev xm10 : Stmt := (clsBody (top 11)).getD 0 (.Pass ⟨0, 0, 0, 0⟩)
abbrev xm11 : Stmt := (clsBody (top 12)).getD 0 (.Pass ⟨0, 0, 0, 0⟩)
abbrev xm12 : Stmt := (clsBody (top 13)).getD 0 (.Pass ⟨0, 0, 0, 0⟩)
abbrev xm13 : Stmt := (clsBody (top 14)).getD 0 (.Pass ⟨0, 0, 0, 0⟩)
abbrev xm14 : Stmt := (clsBody (top 15)).getD 0 (.Pass ⟨0, 0, 0, 0⟩)
abbrev xm15 : Stmt := (clsBody (top 16)).getD 0 (.Pass ⟨0, 0, 0, 0⟩)
abbrev xm17 : Stmt := (clsBody (top 18)).getD 0 (.Pass ⟨0, 0, 0, 0⟩)
abbrev xm18 : Stmt := (clsBody (top 19)).getD 0 (.Pass ⟨0, 0, 0, 0⟩)
abbrev xm20 : Stmt := (clsBody (top 21)).getD 0 (.Pass ⟨0, 0, 0, 0⟩)
abbrev xm21 : Stmt := (clsBody (top 22)).getD 0 (.Pass ⟨0, 0, 0, 0⟩)
abbrev xm22 : Stmt := (clsBody (top 23)).getD 0 (.Pass ⟨0, 0, 0, 0⟩)
abbrev xm23 : Stmt := (clsBody (top 24)).getD 0 (.Pass ⟨0, 0, 0, 0⟩)
abbrev xm24 : Stmt := (clsBody (top 25)).getD 0 (.Pass ⟨0, 0, 0, 0⟩)
abbrev xm25 : Stmt := (clsBody (top 26)).getD 0 (.Pass ⟨0, 0, 0, 0⟩)
def up (R : Nat → FM) : Bool := match R 13 [] [] with | .ok _ _ => true | _ => false
def is_NoText : List (Str × Bool) := [("NoText", true), ("NoItem", false), ("NoTerm", false), ("Taken", false), ("Unjudged", false), ("Holds", false), ("NoRow", false), ("NoEnd", false), ("Ring", false), ("Lacks", false), ("Unclear", false), ("Idle", false), ("Broken", false), ("Holed", false), ("NoBack", false), ("TooLong", false), ("TooGreat", false), ("NoName", false), ("NoSpot", false), ("NoLibrary", false), ("NoHole", false), ("NoPicture", false), ("NoWorth", false)]
def is_NoItem : List (Str × Bool) := [("NoText", false), ("NoItem", true), ("NoTerm", false), ("Taken", false), ("Unjudged", false), ("Holds", false), ("NoRow", false), ("NoEnd", false), ("Ring", false), ("Lacks", false), ("Unclear", false), ("Idle", false), ("Broken", false), ("Holed", false), ("NoBack", false), ("TooLong", false), ("TooGreat", false), ("NoName", false), ("NoSpot", false), ("NoLibrary", false), ("NoHole", false), ("NoPicture", false), ("NoWorth", false)]
def is_NoTerm : List (Str × Bool) := [("NoText", false), ("NoItem", false), ("NoTerm", true), ("Taken", false), ("Unjudged", false), ("Holds", false), ("NoRow", false), ("NoEnd", false), ("Ring", false), ("Lacks", false), ("Unclear", false), ("Idle", false), ("Broken", false), ("Holed", false), ("NoBack", false), ("TooLong", false), ("TooGreat", false), ("NoName", false), ("NoSpot", false), ("NoLibrary", false), ("NoHole", false), ("NoPicture", false), ("NoWorth", false)]
def is_Taken : List (Str × Bool) := [("NoText", false), ("NoItem", false), ("NoTerm", false), ("Taken", true), ("Unjudged", false), ("Holds", false), ("NoRow", false), ("NoEnd", false), ("Ring", false), ("Lacks", false), ("Unclear", false), ("Idle", false), ("Broken", false), ("Holed", false), ("NoBack", false), ("TooLong", false), ("TooGreat", false), ("NoName", false), ("NoSpot", false), ("NoLibrary", false), ("NoHole", false), ("NoPicture", false), ("NoWorth", false)]
def is_Unjudged : List (Str × Bool) := [("NoText", false), ("NoItem", false), ("NoTerm", false), ("Taken", false), ("Unjudged", true), ("Holds", false), ("NoRow", false), ("NoEnd", false), ("Ring", false), ("Lacks", false), ("Unclear", false), ("Idle", false), ("Broken", false), ("Holed", false), ("NoBack", false), ("TooLong", false), ("TooGreat", false), ("NoName", false), ("NoSpot", false), ("NoLibrary", false), ("NoHole", false), ("NoPicture", false), ("NoWorth", false)]
def is_Holds : List (Str × Bool) := [("NoText", false), ("NoItem", false), ("NoTerm", false), ("Taken", false), ("Unjudged", false), ("Holds", true), ("NoRow", false), ("NoEnd", false), ("Ring", false), ("Lacks", false), ("Unclear", false), ("Idle", false), ("Broken", false), ("Holed", false), ("NoBack", false), ("TooLong", false), ("TooGreat", false), ("NoName", false), ("NoSpot", false), ("NoLibrary", false), ("NoHole", false), ("NoPicture", false), ("NoWorth", false)]
def is_NoRow : List (Str × Bool) := [("NoText", false), ("NoItem", false), ("NoTerm", false), ("Taken", false), ("Unjudged", false), ("Holds", false), ("NoRow", true), ("NoEnd", false), ("Ring", false), ("Lacks", false), ("Unclear", false), ("Idle", false), ("Broken", false), ("Holed", false), ("NoBack", false), ("TooLong", false), ("TooGreat", false), ("NoName", false), ("NoSpot", false), ("NoLibrary", false), ("NoHole", false), ("NoPicture", false), ("NoWorth", false)]
def is_NoEnd : List (Str × Bool) := [("NoText", false), ("NoItem", false), ("NoTerm", false), ("Taken", false), ("Unjudged", false), ("Holds", false), ("NoRow", false), ("NoEnd", true), ("Ring", false), ("Lacks", false), ("Unclear", false), ("Idle", false), ("Broken", false), ("Holed", false), ("NoBack", false), ("TooLong", false), ("TooGreat", false), ("NoName", false), ("NoSpot", false), ("NoLibrary", false), ("NoHole", false), ("NoPicture", false), ("NoWorth", false)]
def is_Ring : List (Str × Bool) := [("NoText", false), ("NoItem", false), ("NoTerm", false), ("Taken", false), ("Unjudged", false), ("Holds", false), ("NoRow", false), ("NoEnd", false), ("Ring", true), ("Lacks", false), ("Unclear", false), ("Idle", false), ("Broken", false), ("Holed", false), ("NoBack", false), ("TooLong", false), ("TooGreat", false), ("NoName", false), ("NoSpot", false), ("NoLibrary", false), ("NoHole", false), ("NoPicture", false), ("NoWorth", false)]
def is_Lacks : List (Str × Bool) := [("NoText", false), ("NoItem", false), ("NoTerm", false), ("Taken", false), ("Unjudged", false), ("Holds", false), ("NoRow", false), ("NoEnd", false), ("Ring", false), ("Lacks", true), ("Unclear", false), ("Idle", false), ("Broken", false), ("Holed", false), ("NoBack", false), ("TooLong", false), ("TooGreat", false), ("NoName", false), ("NoSpot", false), ("NoLibrary", false), ("NoHole", false), ("NoPicture", false), ("NoWorth", false)]
def is_Unclear : List (Str × Bool) := [("NoText", false), ("NoItem", false), ("NoTerm", false), ("Taken", false), ("Unjudged", false), ("Holds", false), ("NoRow", false), ("NoEnd", false), ("Ring", false), ("Lacks", false), ("Unclear", true), ("Idle", false), ("Broken", false), ("Holed", false), ("NoBack", false), ("TooLong", false), ("TooGreat", false), ("NoName", false), ("NoSpot", false), ("NoLibrary", false), ("NoHole", false), ("NoPicture", false), ("NoWorth", false)]
def is_Idle : List (Str × Bool) := [("NoText", false), ("NoItem", false), ("NoTerm", false), ("Taken", false), ("Unjudged", false), ("Holds", false), ("NoRow", false), ("NoEnd", false), ("Ring", false), ("Lacks", false), ("Unclear", false), ("Idle", true), ("Broken", false), ("Holed", false), ("NoBack", false), ("TooLong", false), ("TooGreat", false), ("NoName", false), ("NoSpot", false), ("NoLibrary", false), ("NoHole", false), ("NoPicture", false), ("NoWorth", false)]
def is_Broken : List (Str × Bool) := [("NoText", false), ("NoItem", false), ("NoTerm", false), ("Taken", false), ("Unjudged", false), ("Holds", false), ("NoRow", false), ("NoEnd", false), ("Ring", false), ("Lacks", false), ("Unclear", false), ("Idle", false), ("Broken", true), ("Holed", false), ("NoBack", false), ("TooLong", false), ("TooGreat", false), ("NoName", false), ("NoSpot", false), ("NoLibrary", false), ("NoHole", false), ("NoPicture", false), ("NoWorth", false)]
def is_Holed : List (Str × Bool) := [("NoText", false), ("NoItem", false), ("NoTerm", false), ("Taken", false), ("Unjudged", false), ("Holds", false), ("NoRow", false), ("NoEnd", false), ("Ring", false), ("Lacks", false), ("Unclear", false), ("Idle", false), ("Broken", false), ("Holed", true), ("NoBack", false), ("TooLong", false), ("TooGreat", false), ("NoName", false), ("NoSpot", false), ("NoLibrary", false), ("NoHole", false), ("NoPicture", false), ("NoWorth", false)]
def is_NoBack : List (Str × Bool) := [("NoText", false), ("NoItem", false), ("NoTerm", false), ("Taken", false), ("Unjudged", false), ("Holds", false), ("NoRow", false), ("NoEnd", false), ("Ring", false), ("Lacks", false), ("Unclear", false), ("Idle", false), ("Broken", false), ("Holed", false), ("NoBack", true), ("TooLong", false), ("TooGreat", false), ("NoName", false), ("NoSpot", false), ("NoLibrary", false), ("NoHole", false), ("NoPicture", false), ("NoWorth", false)]
def is_TooLong : List (Str × Bool) := [("NoText", false), ("NoItem", false), ("NoTerm", false), ("Taken", false), ("Unjudged", false), ("Holds", false), ("NoRow", false), ("NoEnd", false), ("Ring", false), ("Lacks", false), ("Unclear", false), ("Idle", false), ("Broken", false), ("Holed", false), ("NoBack", false), ("TooLong", true), ("TooGreat", false), ("NoName", false), ("NoSpot", false), ("NoLibrary", false), ("NoHole", false), ("NoPicture", false), ("NoWorth", false)]
def is_TooGreat : List (Str × Bool) := [("NoText", false), ("NoItem", false), ("NoTerm", false), ("Taken", false), ("Unjudged", false), ("Holds", false), ("NoRow", false), ("NoEnd", false), ("Ring", false), ("Lacks", false), ("Unclear", false), ("Idle", false), ("Broken", false), ("Holed", false), ("NoBack", false), ("TooLong", false), ("TooGreat", true), ("NoName", false), ("NoSpot", false), ("NoLibrary", false), ("NoHole", false), ("NoPicture", false), ("NoWorth", false)]
def is_NoName : List (Str × Bool) := [("NoText", false), ("NoItem", false), ("NoTerm", false), ("Taken", false), ("Unjudged", false), ("Holds", false), ("NoRow", false), ("NoEnd", false), ("Ring", false), ("Lacks", false), ("Unclear", false), ("Idle", false), ("Broken", false), ("Holed", false), ("NoBack", false), ("TooLong", false), ("TooGreat", false), ("NoName", true), ("NoSpot", false), ("NoLibrary", false), ("NoHole", false), ("NoPicture", false), ("NoWorth", false)]
def is_NoSpot : List (Str × Bool) := [("NoText", false), ("NoItem", false), ("NoTerm", false), ("Taken", false), ("Unjudged", false), ("Holds", false), ("NoRow", false), ("NoEnd", false), ("Ring", false), ("Lacks", false), ("Unclear", false), ("Idle", false), ("Broken", false), ("Holed", false), ("NoBack", false), ("TooLong", false), ("TooGreat", false), ("NoName", false), ("NoSpot", true), ("NoLibrary", false), ("NoHole", false), ("NoPicture", false), ("NoWorth", false)]
def is_NoLibrary : List (Str × Bool) := [("NoText", false), ("NoItem", false), ("NoTerm", false), ("Taken", false), ("Unjudged", false), ("Holds", false), ("NoRow", false), ("NoEnd", false), ("Ring", false), ("Lacks", false), ("Unclear", false), ("Idle", false), ("Broken", false), ("Holed", false), ("NoBack", false), ("TooLong", false), ("TooGreat", false), ("NoName", false), ("NoSpot", false), ("NoLibrary", true), ("NoHole", false), ("NoPicture", false), ("NoWorth", false)]
def is_NoHole : List (Str × Bool) := [("NoText", false), ("NoItem", false), ("NoTerm", false), ("Taken", false), ("Unjudged", false), ("Holds", false), ("NoRow", false), ("NoEnd", false), ("Ring", false), ("Lacks", false), ("Unclear", false), ("Idle", false), ("Broken", false), ("Holed", false), ("NoBack", false), ("TooLong", false), ("TooGreat", false), ("NoName", false), ("NoSpot", false), ("NoLibrary", false), ("NoHole", true), ("NoPicture", false), ("NoWorth", false)]
def is_NoPicture : List (Str × Bool) := [("NoText", false), ("NoItem", false), ("NoTerm", false), ("Taken", false), ("Unjudged", false), ("Holds", false), ("NoRow", false), ("NoEnd", false), ("Ring", false), ("Lacks", false), ("Unclear", false), ("Idle", false), ("Broken", false), ("Holed", false), ("NoBack", false), ("TooLong", false), ("TooGreat", false), ("NoName", false), ("NoSpot", false), ("NoLibrary", false), ("NoHole", false), ("NoPicture", true), ("NoWorth", false)]
def is_NoWorth : List (Str × Bool) := [("NoText", false), ("NoItem", false), ("NoTerm", false), ("Taken", false), ("Unjudged", false), ("Holds", false), ("NoRow", false), ("NoEnd", false), ("Ring", false), ("Lacks", false), ("Unclear", false), ("Idle", false), ("Broken", false), ("Holed", false), ("NoBack", false), ("TooLong", false), ("TooGreat", false), ("NoName", false), ("NoSpot", false), ("NoLibrary", false), ("NoHole", false), ("NoPicture", false), ("NoWorth", true)]
def is_TooMuch : List (Str × Bool) := [("NoText", false), ("NoItem", false), ("NoTerm", false), ("Taken", false), ("Unjudged", false), ("Holds", false), ("NoRow", false), ("NoEnd", false), ("Ring", false), ("Lacks", false), ("Unclear", false), ("Idle", false), ("Broken", false), ("Holed", false), ("NoBack", false), ("TooLong", true), ("TooGreat", true), ("NoName", false), ("NoSpot", false), ("NoLibrary", false), ("NoHole", false), ("NoPicture", false), ("NoWorth", false)]
def is_TongueError : List (Str × Bool) := [("NoText", true), ("NoItem", true), ("NoTerm", true), ("Taken", true), ("Unjudged", true), ("Holds", true), ("NoRow", true), ("NoEnd", true), ("Ring", true), ("Lacks", true), ("Unclear", true), ("Idle", true), ("Broken", true), ("Holed", true), ("NoBack", true), ("TooLong", true), ("TooGreat", true), ("NoName", false), ("NoSpot", false), ("NoLibrary", false), ("NoHole", false), ("NoPicture", false), ("NoWorth", false)]
def is_ValueError : List (Str × Bool) := [("NoText", true), ("NoItem", true), ("NoTerm", true), ("Taken", true), ("Unjudged", true), ("Holds", true), ("NoRow", true), ("NoEnd", true), ("Ring", true), ("Lacks", true), ("Unclear", true), ("Idle", true), ("Broken", true), ("Holed", true), ("NoBack", true), ("TooLong", true), ("TooGreat", true), ("NoName", false), ("NoSpot", false), ("NoLibrary", false), ("NoHole", false), ("NoPicture", false), ("NoWorth", false)]
def is_Absent : List (Str × Bool) := [("NoText", false), ("NoItem", false), ("NoTerm", false), ("Taken", false), ("Unjudged", false), ("Holds", false), ("NoRow", false), ("NoEnd", false), ("Ring", false), ("Lacks", false), ("Unclear", false), ("Idle", false), ("Broken", false), ("Holed", false), ("NoBack", false), ("TooLong", false), ("TooGreat", false), ("NoName", true), ("NoSpot", true), ("NoLibrary", true), ("NoHole", true), ("NoPicture", true), ("NoWorth", true)]
def is_KeyError : List (Str × Bool) := [("NoText", false), ("NoItem", false), ("NoTerm", false), ("Taken", false), ("Unjudged", false), ("Holds", false), ("NoRow", false), ("NoEnd", false), ("Ring", false), ("Lacks", false), ("Unclear", false), ("Idle", false), ("Broken", false), ("Holed", false), ("NoBack", false), ("TooLong", false), ("TooGreat", false), ("NoName", true), ("NoSpot", true), ("NoLibrary", true), ("NoHole", true), ("NoPicture", true), ("NoWorth", true)]
def fl_spot : List Str := ["Unjudged", "NoSpot"]
def fl_word : List Str := ["Unjudged", "NoRow"]
def fl_shape : List Str := ["Holds"]
def fl_k : List Str := ["Holds"]
def fl_row : List Str := ["NoRow", "NoEnd", "Idle"]
def fl_name : List Str := ["Taken", "NoEnd", "Lacks", "Unclear", "Idle", "Broken", "Holed", "NoName"]
def fl_names : List Str := ["Ring"]
def fl_arguments : List Str := ["Lacks"]
def fl_many : List Str := ["NoBack"]
def fl_most : List Str := ["TooLong"]
def fl_size : List Str := ["TooGreat"]
def fl_lib : List Str := ["NoLibrary"]
def fl_hole : List Str := ["NoHole"]
def fl_n : List Str := ["NoPicture", "NoWorth"]
/-- _law_deck: script cells cell -/
def b0 (R : Nat → FM) : SM := sSeq (sSet 1 (mBlt listG (lCons (mSl (mVar 0) (oNone) (oSome (mC (.int 63)))) (lNil)))) (sRet (mLstC (lCons (mUnC revD (mVar 1)) (lCons (mOp addD (mBlt sumG (lCons (mLc (iAny (mVar 1)) (gmName 2) (tmYes) (mOp modD (mVar 2) (mC (.int 1000033))) [2]) (lNil))) (mOp mulD (mC (.int 6007)) (mBlt lenG (lCons (mVar 1) (lNil))))) (lCons (mC (.int 0)) (lNil))))))
/-- _law_draw: deck ways cell mixed -/
def b1 (R : Nat → FM) : SM := sSeq (sSetIx (mVar 0) (mC (.int 2)) (mOp addD (mOp ixD (mVar 0) (mC (.int 2))) (mC (.int 1)))) (sSeq (sSet 2 (mOp ixD (mVar 0) (mC (.int 1)))) (sSeq (sIf (mB (mOp neD (mOp ixD (mVar 0) (mC (.int 0))) (mLst (lNil)))) (sSeq (sSet 2 (mMt "list" popG (mOp ixD (mVar 0) (mC (.int 0))) lNil)) (sIf (mB (mOp geD (mVar 2) (mOp powD (mC (.int 10)) (mC (.int 18))))) (sSeq (sExpr (mMt "list" appendG (mOp ixD (mVar 0) (mC (.int 0))) (lCons (mOp fdivD (mVar 2) (mVar 1)) (lNil)))) (sRet (mOp modD (mVar 2) (mVar 1)))) (sNil))) (sNil)) (sSeq (sSet 3 (mOp modD (mOp mulD (mOp addD (mOp addD (mOp modD (mVar 2) (mC (.int 2147483629))) (mOp mulD (mC (.int 92821)) (mOp ixD (mVar 0) (mC (.int 2))))) (mC (.int 17))) (mC (.int 48271))) (mC (.int 2147483647)))) (sSeq (sSet 3 (mOp modD (mOp addD (mOp addD (mOp mulD (mVar 3) (mVar 3)) (mOp mulD (mC (.int 69621)) (mOp ixD (mVar 0) (mC (.int 2))))) (mC (.int 29))) (mC (.int 2147483587)))) (sRet (mOp modD (mOp fdivD (mOp modD (mOp addD (mOp mulD (mVar 3) (mVar 3)) (mOp mulD (mC (.int 40692)) (mVar 3))) (mC (.int 2147483563))) (mC (.int 64))) (mVar 1)))))))
/-- _law_name: deck letters many first step k -/
def b2 (R : Nat → FM) : SM := sSeq (sSet 1 (mC (.str "abcdefghijklmnopqrstuvwxyz"))) (sSeq (sSet 2 (mOp ixD (mLst (lCons (mC (.int 1)) (lCons (mC (.int 8)) (lCons (mOp addD (mC (.int 1)) (mCall (R 1) 2 (lCons (mVar 0) (lCons (mC (.int 8)) (lNil))))) (lCons (mC (.int 2)) (lNil)))))) (mCall (R 1) 2 (lCons (mVar 0) (lCons (mC (.int 4)) (lNil)))))) (sSeq (sSet 3 (mCall (R 1) 2 (lCons (mVar 0) (lCons (mC (.int 26)) (lNil))))) (sSeq (sSet 4 (mCall (R 1) 2 (lCons (mVar 0) (lCons (mC (.int 3)) (lNil))))) (sRet (mMt "str" joinG (mC (.str "")) (lCons (mLc (iRng1 (mVar 2)) (gmName 5) (tmYes) (mOp ixD (mVar 1) (mOp modD (mOp addD (mVar 3) (mOp mulD (mVar 4) (mVar 5))) (mC (.int 26)))) [5]) (lNil)))))))
/-- _law_far: deck number -/
def b3 (R : Nat → FM) : SM := sSeq (sSet 1 (mOp ixD (mLst (lCons (mC (.int 1)) (lCons (mC (.int 9)) (lCons (mC (.int 10)) (lCons (mOp addD (mC (.int 1)) (mCall (R 1) 2 (lCons (mVar 0) (lCons (mC (.int 120)) (lNil))))) (lCons (mOp powD (mC (.int 10)) (mC (.int 39))) (lNil))))))) (mCall (R 1) 2 (lCons (mVar 0) (lCons (mC (.int 5)) (lNil)))))) (sRet (mOp addD (mOp addD (mOp addD (mOp addD (mCall (R 2) 1 (lCons (mVar 0) (lNil))) (mC (.str "."))) (mBlt strG (lCons (mVar 1) (lNil)))) (mC (.str "."))) (mCall (R 2) 1 (lCons (mVar 0) (lNil)))))
/-- _law_called: deck -/
def b4 (R : Nat → FM) : SM := sRet (mIf (mB (mOp eqD (mCall (R 1) 2 (lCons (mVar 0) (lCons (mC (.int 3)) (lNil)))) (mC (.int 0)))) (mCall (R 3) 1 (lCons (mVar 0) (lNil))) (mCall (R 2) 1 (lCons (mVar 0) (lNil))))
/-- _law_marks: e some above -/
def b5 (R : Nat → FM) : SM := sSeq (sSet 1 (mLst (lCons (mUn (isxB is_NoText) (mVar 0)) (lCons (mUn (isxB is_NoItem) (mVar 0)) (lCons (mUn (isxB is_NoTerm) (mVar 0)) (lCons (mUn (isxB is_Taken) (mVar 0)) (lNil))))))) (sSeq (sSet 1 (mOp addD (mVar 1) (mLst (lCons (mUn (isxB is_Unjudged) (mVar 0)) (lCons (mUn (isxB is_Holds) (mVar 0)) (lCons (mUn (isxB is_NoRow) (mVar 0)) (lCons (mUn (isxB is_NoEnd) (mVar 0)) (lNil)))))))) (sSeq (sSet 1 (mOp addD (mVar 1) (mLst (lCons (mUn (isxB is_Ring) (mVar 0)) (lCons (mUn (isxB is_Lacks) (mVar 0)) (lCons (mUn (isxB is_Unclear) (mVar 0)) (lCons (mUn (isxB is_Idle) (mVar 0)) (lNil)))))))) (sSeq (sSet 1 (mOp addD (mVar 1) (mLst (lCons (mUn (isxB is_Broken) (mVar 0)) (lCons (mUn (isxB is_Holed) (mVar 0)) (lCons (mUn (isxB is_NoBack) (mVar 0)) (lCons (mUn (isxB is_TooLong) (mVar 0)) (lNil)))))))) (sSeq (sSet 1 (mOp addD (mVar 1) (mLst (lCons (mUn (isxB is_TooGreat) (mVar 0)) (lCons (mUn (isxB is_NoName) (mVar 0)) (lCons (mUn (isxB is_NoSpot) (mVar 0)) (lCons (mUn (isxB is_NoLibrary) (mVar 0)) (lNil)))))))) (sSeq (sSet 1 (mOp addD (mVar 1) (mLst (lCons (mUn (isxB is_NoHole) (mVar 0)) (lCons (mUn (isxB is_NoPicture) (mVar 0)) (lCons (mUn (isxB is_NoWorth) (mVar 0)) (lNil))))))) (sSeq (sSet 2 (mLst (lCons (mUn (isxB is_TooMuch) (mVar 0)) (lCons (mUn (isxB is_TongueError) (mVar 0)) (lCons (mUn (isxB is_ValueError) (mVar 0)) (lNil)))))) (sRet (mLst (lCons (mVar 1) (lCons (mOp addD (mVar 2) (mLst (lCons (mUn (isxB is_Absent) (mVar 0)) (lCons (mUn (isxB is_KeyError) (mVar 0)) (lNil))))) (lNil)))))))))))
/-- _law_made: k one two -/
def b6 (R : Nat → FM) : SM := sSeq (sIf (mB (mOp eqD (mVar 0) (mC (.int 0)))) (sRet (mMk0 "NoText" (mC (.str "no text")))) (sNil)) (sSeq (sIf (mB (mOp eqD (mVar 0) (mC (.int 1)))) (sRet (mMk0 "NoItem" (mC (.str "no item")))) (sNil)) (sSeq (sIf (mB (mOp eqD (mVar 0) (mC (.int 2)))) (sRet (mMk0 "NoTerm" (mC (.str "no term")))) (sNil)) (sSeq (sIf (mB (mOp eqD (mVar 0) (mC (.int 3)))) (sRet (mMkx (up R) "Taken" ["name"] (lCons (mVar 1) (lNil)))) (sNil)) (sSeq (sIf (mB (mOp eqD (mVar 0) (mC (.int 4)))) (sRet (mMkx (up R) "Unjudged" ["spot", "word"] (lCons (mVar 1) (lCons (mVar 2) (lNil))))) (sNil)) (sSeq (sIf (mB (mOp eqD (mVar 0) (mC (.int 5)))) (sRet (mMkx (up R) "Holds" ["shape", "k"] (lCons (mVar 1) (lCons (mVar 2) (lNil))))) (sNil)) (sSeq (sIf (mB (mOp eqD (mVar 0) (mC (.int 6)))) (sRet (mMkx (up R) "NoRow" ["row", "word"] (lCons (mVar 1) (lCons (mVar 2) (lNil))))) (sNil)) (sSeq (sIf (mB (mOp eqD (mVar 0) (mC (.int 7)))) (sRet (mMkx (up R) "NoEnd" ["name", "row"] (lCons (mVar 1) (lCons (mVar 2) (lNil))))) (sNil)) (sSeq (sIf (mB (mOp eqD (mVar 0) (mC (.int 8)))) (sRet (mMkx (up R) "Ring" ["names"] (lCons (mVar 1) (lNil)))) (sNil)) (sSeq (sIf (mB (mOp eqD (mVar 0) (mC (.int 9)))) (sRet (mMkx (up R) "Lacks" ["name", "arguments"] (lCons (mVar 1) (lCons (mVar 2) (lNil))))) (sNil)) (sSeq (sIf (mB (mOp eqD (mVar 0) (mC (.int 10)))) (sRet (mMkx (up R) "Unclear" ["name"] (lCons (mVar 1) (lNil)))) (sNil)) (sSeq (sIf (mB (mOp eqD (mVar 0) (mC (.int 11)))) (sRet (mMkx (up R) "Idle" ["name", "row"] (lCons (mVar 1) (lCons (mVar 2) (lNil))))) (sNil)) (sRet (mCall (R 7) 2 (lCons (mVar 0) (lCons (mVar 1) (lNil))))))))))))))))
/-- _law_made_further: k one -/
def b7 (R : Nat → FM) : SM := sSeq (sIf (mB (mOp eqD (mVar 0) (mC (.int 12)))) (sRet (mMkx (up R) "Broken" ["name"] (lCons (mVar 1) (lNil)))) (sNil)) (sSeq (sIf (mB (mOp eqD (mVar 0) (mC (.int 13)))) (sRet (mMkx (up R) "Holed" ["name"] (lCons (mVar 1) (lNil)))) (sNil)) (sSeq (sIf (mB (mOp eqD (mVar 0) (mC (.int 14)))) (sRet (mMkx (up R) "NoBack" ["many"] (lCons (mVar 1) (lNil)))) (sNil)) (sSeq (sIf (mB (mOp eqD (mVar 0) (mC (.int 15)))) (sRet (mMkx (up R) "TooLong" ["most"] (lCons (mVar 1) (lNil)))) (sNil)) (sSeq (sIf (mB (mOp eqD (mVar 0) (mC (.int 16)))) (sRet (mMkx (up R) "TooGreat" ["size"] (lCons (mVar 1) (lNil)))) (sNil)) (sSeq (sIf (mB (mOp eqD (mVar 0) (mC (.int 17)))) (sRet (mMkx (up R) "NoName" ["name"] (lCons (mVar 1) (lNil)))) (sNil)) (sSeq (sIf (mB (mOp eqD (mVar 0) (mC (.int 18)))) (sRet (mMkx (up R) "NoSpot" ["spot"] (lCons (mVar 1) (lNil)))) (sNil)) (sSeq (sIf (mB (mOp eqD (mVar 0) (mC (.int 19)))) (sRet (mMkx (up R) "NoLibrary" ["lib"] (lCons (mVar 1) (lNil)))) (sNil)) (sSeq (sIf (mB (mOp eqD (mVar 0) (mC (.int 20)))) (sRet (mMkx (up R) "NoHole" ["hole"] (lCons (mVar 1) (lNil)))) (sNil)) (sSeq (sIf (mB (mOp eqD (mVar 0) (mC (.int 21)))) (sRet (mMkx (up R) "NoPicture" ["n"] (lCons (mVar 1) (lNil)))) (sNil)) (sRet (mMkx (up R) "NoWorth" ["n"] (lCons (mVar 1) (lNil)))))))))))))
/-- _law_fields: k e -/
def b8 (R : Nat → FM) : SM := sSeq (sIf (mB (mOp ltD (mVar 0) (mC (.int 3)))) (sRet (mLst (lNil))) (sNil)) (sSeq (sIf (mB (mOp inD (mVar 0) (mTup (lCons (mC (.int 4)) (lCons (mC (.int 18)) (lNil)))))) (sRet (mIf (mB (mOp eqD (mVar 0) (mC (.int 4)))) (mLst (lCons (mUn (fldX fl_spot "spot") (mVar 1)) (lCons (mUn (fldX fl_word "word") (mVar 1)) (lNil)))) (mLst (lCons (mUn (fldX fl_spot "spot") (mVar 1)) (lNil))))) (sNil)) (sSeq (sIf (mB (mOp eqD (mVar 0) (mC (.int 5)))) (sRet (mLst (lCons (mUn (fldX fl_shape "shape") (mVar 1)) (lCons (mUn (fldX fl_k "k") (mVar 1)) (lNil))))) (sNil)) (sSeq (sIf (mB (mOp eqD (mVar 0) (mC (.int 6)))) (sRet (mLst (lCons (mUn (fldX fl_row "row") (mVar 1)) (lCons (mUn (fldX fl_word "word") (mVar 1)) (lNil))))) (sNil)) (sSeq (sIf (mB (mOp inD (mVar 0) (mTup (lCons (mC (.int 7)) (lCons (mC (.int 11)) (lNil)))))) (sRet (mLst (lCons (mUn (fldX fl_name "name") (mVar 1)) (lCons (mUn (fldX fl_row "row") (mVar 1)) (lNil))))) (sNil)) (sSeq (sIf (mB (mOp eqD (mVar 0) (mC (.int 8)))) (sRet (mLst (lCons (mUn (fldX fl_names "names") (mVar 1)) (lNil)))) (sNil)) (sSeq (sIf (mB (mOp eqD (mVar 0) (mC (.int 9)))) (sRet (mLst (lCons (mUn (fldX fl_name "name") (mVar 1)) (lCons (mUn (fldX fl_arguments "arguments") (mVar 1)) (lNil))))) (sNil)) (sSeq (sIf (mB (mOp inD (mVar 0) (mTup (lCons (mC (.int 3)) (lCons (mC (.int 10)) (lCons (mC (.int 12)) (lCons (mC (.int 13)) (lCons (mC (.int 17)) (lNil))))))))) (sRet (mLst (lCons (mUn (fldX fl_name "name") (mVar 1)) (lNil)))) (sNil)) (sSeq (sIf (mB (mOp eqD (mVar 0) (mC (.int 14)))) (sRet (mLst (lCons (mUn (fldX fl_many "many") (mVar 1)) (lNil)))) (sNil)) (sSeq (sIf (mB (mOp inD (mVar 0) (mTup (lCons (mC (.int 15)) (lCons (mC (.int 16)) (lNil)))))) (sRet (mIf (mB (mOp eqD (mVar 0) (mC (.int 15)))) (mLst (lCons (mUn (fldX fl_most "most") (mVar 1)) (lNil))) (mLst (lCons (mUn (fldX fl_size "size") (mVar 1)) (lNil))))) (sNil)) (sSeq (sIf (mB (mOp eqD (mVar 0) (mC (.int 19)))) (sRet (mLst (lCons (mUn (fldX fl_lib "lib") (mVar 1)) (lNil)))) (sNil)) (sRet (mIf (mB (mOp eqD (mVar 0) (mC (.int 20)))) (mLst (lCons (mUn (fldX fl_hole "hole") (mVar 1)) (lNil))) (mLst (lCons (mUn (fldX fl_n "n") (mVar 1)) (lNil)))))))))))))))
/-- _law_things: deck k spot word name number turn -/
def b9 (R : Nat → FM) : SM := sSeq (sPar 4 5 (mCall (R 4) 1 (lCons (mVar 0) (lNil))) (mOp ixD (mLst (lCons (mC (.int 0)) (lCons (mC (.int 1)) (lCons (mCall (R 1) 2 (lCons (mVar 0) (lCons (mC (.int 1000)) (lNil)))) (lCons (mOp powD (mC (.int 10)) (mC (.int 39))) (lNil)))))) (mCall (R 1) 2 (lCons (mVar 0) (lCons (mC (.int 4)) (lNil)))))) (sSeq (sSet 2 (mBlt tupG (lCons (mLc (iRng1 (mCall (R 1) 2 (lCons (mVar 0) (lCons (mC (.int 6)) (lNil))))) (gmName 6) (tmYes) (mCall (R 1) 2 (lCons (mVar 0) (lCons (mC (.int 5)) (lNil)))) [6]) (lNil)))) (sSeq (sSet 3 (mOp ixD (mLst (lCons (mC (.str "gone")) (lCons (mC (.str "around")) (lCons (mC (.str "kind")) (lCons (mC (.str "to")) (lCons (mC (.str "mark")) (lCons (mC (.str "name")) (lCons (mC (.str "many")) (lCons (mC (.str "unlike")) (lCons (mC (.str "wish")) (lCons (mC (.str "high")) (lNil)))))))))))) (mCall (R 1) 2 (lCons (mVar 0) (lCons (mC (.int 10)) (lNil)))))) (sSeq (sIf (mB (mOp inD (mVar 1) (mTup (lCons (mC (.int 4)) (lCons (mC (.int 18)) (lNil)))))) (sRet (mTup (lCons (mVar 2) (lCons (mVar 3) (lNil))))) (sNil)) (sSeq (sIf (mB (mOp eqD (mVar 1) (mC (.int 6)))) (sRet (mTup (lCons (mCall (R 1) 2 (lCons (mVar 0) (lCons (mC (.int 8)) (lNil)))) (lCons (mOp ixD (mLst (lCons (mC (.str "gone")) (lCons (mC (.str "family")) (lCons (mC (.str "shape")) (lCons (mC (.str "many")) (lCons (mC (.str "never")) (lCons (mC (.str "unclear")) (lNil)))))))) (mCall (R 1) 2 (lCons (mVar 0) (lCons (mC (.int 6)) (lNil))))) (lNil))))) (sNil)) (sSeq (sIf (mB (mOp eqD (mVar 1) (mC (.int 8)))) (sRet (mTup (lCons (mBlt tupG (lCons (mLc (iRng1 (mOp addD (mC (.int 1)) (mCall (R 1) 2 (lCons (mVar 0) (lCons (mC (.int 3)) (lNil)))))) (gmName 6) (tmYes) (mCall (R 2) 1 (lCons (mVar 0) (lNil))) [6]) (lNil))) (lCons (mC .non) (lNil))))) (sNil)) (sSeq (sIf (mB (mOp eqD (mVar 1) (mC (.int 9)))) (sRet (mTup (lCons (mVar 4) (lCons (mTup (lCons (mTup (lCons (mC (.str "shape")) (lCons (mC (.str "nat")) (lCons (mC (.str "zero")) (lCons (mTup (lNil)) (lNil)))))) (lCons (mTup (lCons (mC (.str "world")) (lCons (mCall (R 1) 2 (lCons (mVar 0) (lCons (mC (.int 9)) (lNil)))) (lNil)))) (lNil)))) (lNil))))) (sNil)) (sRet (mIf (mB (mOp inD (mVar 1) (mTup (lCons (mC (.int 14)) (lCons (mC (.int 15)) (lCons (mC (.int 16)) (lCons (mC (.int 21)) (lCons (mC (.int 22)) (lNil))))))))) (mTup (lCons (mVar 5) (lCons (mC .non) (lNil)))) (mTup (lCons (mVar 4) (lCons (mCall (R 1) 2 (lCons (mVar 0) (lCons (mC (.int 8)) (lNil)))) (lNil))))))))))))
/-- _law_due_marks: k own at -/
def b10 (R : Nat → FM) : SM := sSeq (sSet 1 (mLc (iRng1 (mC (.int 23))) (gmName 2) (tmYes) (mOp eqD (mVar 2) (mVar 0)) [2])) (sRet (mLst (lCons (mVar 1) (lCons (mLst (lCons (mOp inD (mVar 0) (mTup (lCons (mC (.int 15)) (lCons (mC (.int 16)) (lNil))))) (lCons (mOp ltD (mVar 0) (mC (.int 17))) (lCons (mOp ltD (mVar 0) (mC (.int 17))) (lCons (mOp gtD (mVar 0) (mC (.int 16))) (lCons (mOp gtD (mVar 0) (mC (.int 16))) (lNil))))))) (lNil)))))
/-- law: script deck left ones turn k again one two e due -/
def b11 (R : Nat → FM) : SM := sSeq (sSet 1 (mCall (R 0) 1 (lCons (mVar 0) (lNil)))) (sSeq (sSet 2 (mRgC (mC (.int 23)))) (sSeq (sSet 3 (mLstC (lNil))) (sSeq (sFor (iRng1 (mC (.int 23))) (gmName 4) (sSeq (sSet 5 (mMt "list" popAtG (mVar 2) (lCons (mCall (R 1) 2 (lCons (mVar 1) (lCons (mBlt lenG (lCons (mVar 2) (lNil))) (lNil)))) (lNil)))) (sFor (iRng1 (mC (.int 2))) (gmName 6) (sSeq (sAsg (gmTup [gmName 7, gmName 8]) (mCall (R 9) 2 (lCons (mVar 1) (lCons (mVar 5) (lNil))))) (sExpr (mMt "list" appendG (mVar 3) (lCons (mTup (lCons (mVar 5) (lCons (mVar 7) (lCons (mVar 8) (lCons (mCall (R 6) 3 (lCons (mVar 5) (lCons (mVar 7) (lCons (mVar 8) (lNil))))) (lNil)))))) (lNil)))))))) (sSeq (sFrz 3 (sFor (iAny (mVar 3)) (gmTup [gmName 5, gmName 7, gmName 8, gmName 9]) (sSeq (sSet 10 (mOp ixD (mLst (lCons (mLst (lNil)) (lCons (mLst (lCons (mVar 7) (lNil))) (lCons (mLst (lCons (mVar 7) (lCons (mVar 8) (lNil)))) (lNil))))) (mIf (mB (mOp ltD (mVar 5) (mC (.int 3)))) (mC (.int 0)) (mOp addD (mC (.int 1)) (mBlt intG (lCons (mOp inD (mVar 5) (mTup (lCons (mC (.int 4)) (lCons (mC (.int 5)) (lCons (mC (.int 6)) (lCons (mC (.int 7)) (lCons (mC (.int 9)) (lCons (mC (.int 11)) (lNil))))))))) (lNil))))))) (sIf (tmOr (mB (mOp neD (mBlt reprG (lCons (mCall (R 8) 2 (lCons (mVar 5) (lCons (mVar 9) (lNil)))) (lNil))) (mBlt reprG (lCons (mVar 10) (lNil))))) (mB (mOp neD (mBlt reprG (lCons (mCall (R 5) 1 (lCons (mVar 9) (lNil))) (lNil))) (mBlt reprG (lCons (mCall (R 10) 1 (lCons (mVar 5) (lNil))) (lNil)))))) (sRet (mC (.bl false))) (sNil))))) (sRet (mC (.bl true)))))))
def bodyOf (i : Nat) (R : Nat → FM) : FM := match i with
  | 0 => fnM 3 (b0 R)
  | 1 => fnM 4 (b1 R)
  | 2 => fnM 6 (b2 R)
  | 3 => fnM 2 (b3 R)
  | 4 => fnM 1 (b4 R)
  | 5 => fnM 3 (b5 R)
  | 6 => fnM 3 (b6 R)
  | 7 => fnM 2 (b7 R)
  | 8 => fnM 2 (b8 R)
  | 9 => fnM 7 (b9 R)
  | 10 => fnM 3 (b10 R)
  | 11 => fnM 11 (b11 R)
  | 12 => fun _ _ => .ok .non []
  | 13 => R 12
  | _ => fun _ _ => .bad
def run : Nat → Nat → FM
  | 0, _ => fun _ _ => .bad
  | k + 1, i => bodyOf i (run k)
structure Mod (K : PySem.W.Frag) (mg : Str → Option Value) (fa : Nat → Addr) (fd : Nat → FuncData) (xa xf : Nat → Addr) (xd : Nat → FuncData) : Prop where
  x0 : XCls K mg PySem.HandSPX.veTail "ValueError.__new__" "ValueError.__init__" "TongueError" (xa 0)
  x1 : XCls K mg PySem.HandSPX.veTail "ValueError.__new__" "ValueError.__init__" "NoText" (xa 1)
  e1 : PySem.W.excIn K (xa 1) [.type "ValueError", .type "Exception", .type "BaseException", .type "object"] "ValueError.__new__" = true
  x2 : XCls K mg PySem.HandSPX.veTail "ValueError.__new__" "ValueError.__init__" "NoItem" (xa 2)
  e2 : PySem.W.excIn K (xa 2) [.type "ValueError", .type "Exception", .type "BaseException", .type "object"] "ValueError.__new__" = true
  x3 : XCls K mg PySem.HandSPX.veTail "ValueError.__new__" "ValueError.__init__" "NoTerm" (xa 3)
  e3 : PySem.W.excIn K (xa 3) [.type "ValueError", .type "Exception", .type "BaseException", .type "object"] "ValueError.__new__" = true
  x4 : XCls K mg PySem.HandSPX.veTail "ValueError.__new__" "ValueError.__init__" "Taken" (xa 4)
  i4 : PySem.W.findIn K (.ref (xa 4)) "__init__" = some (some (.ref (xf 4)))
  t4 : PySem.W.typeIn K (.ref (xf 4)) = some (.type "function")
  F4 : Fun K "__init__" "Taken.__init__" xm4 (xf 4) (xd 4)
  n4 : Binds K (xd 4) ["self", "name"] []
  b4 : XIni K mg "ValueError.__init__" "TongueError" (xa 0)
  f4_name : PySem.W.findIn K (.ref (xa 4)) "name" = some none
  x5 : XCls K mg PySem.HandSPX.veTail "ValueError.__new__" "ValueError.__init__" "Unjudged" (xa 5)
  i5 : PySem.W.findIn K (.ref (xa 5)) "__init__" = some (some (.ref (xf 5)))
  t5 : PySem.W.typeIn K (.ref (xf 5)) = some (.type "function")
  F5 : Fun K "__init__" "Unjudged.__init__" xm5 (xf 5) (xd 5)
  n5 : Binds K (xd 5) ["self", "spot", "word"] []
  b5 : XIni K mg "ValueError.__init__" "TongueError" (xa 0)
  f5_spot : PySem.W.findIn K (.ref (xa 5)) "spot" = some none
  f5_word : PySem.W.findIn K (.ref (xa 5)) "word" = some none
  x6 : XCls K mg PySem.HandSPX.veTail "ValueError.__new__" "ValueError.__init__" "Holds" (xa 6)
  i6 : PySem.W.findIn K (.ref (xa 6)) "__init__" = some (some (.ref (xf 6)))
  t6 : PySem.W.typeIn K (.ref (xf 6)) = some (.type "function")
  F6 : Fun K "__init__" "Holds.__init__" xm6 (xf 6) (xd 6)
  n6 : Binds K (xd 6) ["self", "shape", "k"] []
  b6 : XIni K mg "ValueError.__init__" "TongueError" (xa 0)
  f6_shape : PySem.W.findIn K (.ref (xa 6)) "shape" = some none
  f6_k : PySem.W.findIn K (.ref (xa 6)) "k" = some none
  x7 : XCls K mg PySem.HandSPX.veTail "ValueError.__new__" "ValueError.__init__" "NoRow" (xa 7)
  i7 : PySem.W.findIn K (.ref (xa 7)) "__init__" = some (some (.ref (xf 7)))
  t7 : PySem.W.typeIn K (.ref (xf 7)) = some (.type "function")
  F7 : Fun K "__init__" "NoRow.__init__" xm7 (xf 7) (xd 7)
  n7 : Binds K (xd 7) ["self", "row", "word"] []
  b7 : XIni K mg "ValueError.__init__" "TongueError" (xa 0)
  f7_row : PySem.W.findIn K (.ref (xa 7)) "row" = some none
  f7_word : PySem.W.findIn K (.ref (xa 7)) "word" = some none
  x8 : XCls K mg PySem.HandSPX.veTail "ValueError.__new__" "ValueError.__init__" "NoEnd" (xa 8)
  i8 : PySem.W.findIn K (.ref (xa 8)) "__init__" = some (some (.ref (xf 8)))
  t8 : PySem.W.typeIn K (.ref (xf 8)) = some (.type "function")
  F8 : Fun K "__init__" "NoEnd.__init__" xm8 (xf 8) (xd 8)
  n8 : Binds K (xd 8) ["self", "name", "row"] []
  b8 : XIni K mg "ValueError.__init__" "TongueError" (xa 0)
  f8_name : PySem.W.findIn K (.ref (xa 8)) "name" = some none
  f8_row : PySem.W.findIn K (.ref (xa 8)) "row" = some none
  x9 : XCls K mg PySem.HandSPX.veTail "ValueError.__new__" "ValueError.__init__" "Ring" (xa 9)
  i9 : PySem.W.findIn K (.ref (xa 9)) "__init__" = some (some (.ref (xf 9)))
  t9 : PySem.W.typeIn K (.ref (xf 9)) = some (.type "function")
  F9 : Fun K "__init__" "Ring.__init__" xm9 (xf 9) (xd 9)
  n9 : Binds K (xd 9) ["self", "names"] []
  b9 : XIni K mg "ValueError.__init__" "TongueError" (xa 0)
  f9_names : PySem.W.findIn K (.ref (xa 9)) "names" = some none
  x10 : XCls K mg PySem.HandSPX.veTail "ValueError.__new__" "ValueError.__init__" "Lacks" (xa 10)
  i10 : PySem.W.findIn K (.ref (xa 10)) "__init__" = some (some (.ref (xf 10)))
  t10 : PySem.W.typeIn K (.ref (xf 10)) = some (.type "function")
  F10 : Fun K "__init__" "Lacks.__init__" xm10 (xf 10) (xd 10)
  n10 : Binds K (xd 10) ["self", "name", "arguments"] []
  b10 : XIni K mg "ValueError.__init__" "TongueError" (xa 0)
  f10_name : PySem.W.findIn K (.ref (xa 10)) "name" = some none
  f10_arguments : PySem.W.findIn K (.ref (xa 10)) "arguments" = some none
  x11 : XCls K mg PySem.HandSPX.veTail "ValueError.__new__" "ValueError.__init__" "Unclear" (xa 11)
  i11 : PySem.W.findIn K (.ref (xa 11)) "__init__" = some (some (.ref (xf 11)))
  t11 : PySem.W.typeIn K (.ref (xf 11)) = some (.type "function")
  F11 : Fun K "__init__" "Unclear.__init__" xm11 (xf 11) (xd 11)
  n11 : Binds K (xd 11) ["self", "name"] []
  b11 : XIni K mg "ValueError.__init__" "TongueError" (xa 0)
  f11_name : PySem.W.findIn K (.ref (xa 11)) "name" = some none
  x12 : XCls K mg PySem.HandSPX.veTail "ValueError.__new__" "ValueError.__init__" "Idle" (xa 12)
  i12 : PySem.W.findIn K (.ref (xa 12)) "__init__" = some (some (.ref (xf 12)))
  t12 : PySem.W.typeIn K (.ref (xf 12)) = some (.type "function")
  F12 : Fun K "__init__" "Idle.__init__" xm12 (xf 12) (xd 12)
  n12 : Binds K (xd 12) ["self", "name", "row"] []
  b12 : XIni K mg "ValueError.__init__" "TongueError" (xa 0)
  f12_name : PySem.W.findIn K (.ref (xa 12)) "name" = some none
  f12_row : PySem.W.findIn K (.ref (xa 12)) "row" = some none
  x13 : XCls K mg PySem.HandSPX.veTail "ValueError.__new__" "ValueError.__init__" "Broken" (xa 13)
  i13 : PySem.W.findIn K (.ref (xa 13)) "__init__" = some (some (.ref (xf 13)))
  t13 : PySem.W.typeIn K (.ref (xf 13)) = some (.type "function")
  F13 : Fun K "__init__" "Broken.__init__" xm13 (xf 13) (xd 13)
  n13 : Binds K (xd 13) ["self", "name"] []
  b13 : XIni K mg "ValueError.__init__" "TongueError" (xa 0)
  f13_name : PySem.W.findIn K (.ref (xa 13)) "name" = some none
  x14 : XCls K mg PySem.HandSPX.veTail "ValueError.__new__" "ValueError.__init__" "Holed" (xa 14)
  i14 : PySem.W.findIn K (.ref (xa 14)) "__init__" = some (some (.ref (xf 14)))
  t14 : PySem.W.typeIn K (.ref (xf 14)) = some (.type "function")
  F14 : Fun K "__init__" "Holed.__init__" xm14 (xf 14) (xd 14)
  n14 : Binds K (xd 14) ["self", "name"] []
  b14 : XIni K mg "ValueError.__init__" "TongueError" (xa 0)
  f14_name : PySem.W.findIn K (.ref (xa 14)) "name" = some none
  x15 : XCls K mg PySem.HandSPX.veTail "ValueError.__new__" "ValueError.__init__" "NoBack" (xa 15)
  i15 : PySem.W.findIn K (.ref (xa 15)) "__init__" = some (some (.ref (xf 15)))
  t15 : PySem.W.typeIn K (.ref (xf 15)) = some (.type "function")
  F15 : Fun K "__init__" "NoBack.__init__" xm15 (xf 15) (xd 15)
  n15 : Binds K (xd 15) ["self", "many"] []
  b15 : XIni K mg "ValueError.__init__" "TongueError" (xa 0)
  f15_many : PySem.W.findIn K (.ref (xa 15)) "many" = some none
  x16 : XCls K mg PySem.HandSPX.veTail "ValueError.__new__" "ValueError.__init__" "TooMuch" (xa 16)
  x17 : XCls K mg PySem.HandSPX.veTail "ValueError.__new__" "ValueError.__init__" "TooLong" (xa 17)
  i17 : PySem.W.findIn K (.ref (xa 17)) "__init__" = some (some (.ref (xf 17)))
  t17 : PySem.W.typeIn K (.ref (xf 17)) = some (.type "function")
  F17 : Fun K "__init__" "TooLong.__init__" xm17 (xf 17) (xd 17)
  n17 : Binds K (xd 17) ["self", "most"] []
  b17 : XIni K mg "ValueError.__init__" "TooMuch" (xa 16)
  f17_most : PySem.W.findIn K (.ref (xa 17)) "most" = some none
  x18 : XCls K mg PySem.HandSPX.veTail "ValueError.__new__" "ValueError.__init__" "TooGreat" (xa 18)
  i18 : PySem.W.findIn K (.ref (xa 18)) "__init__" = some (some (.ref (xf 18)))
  t18 : PySem.W.typeIn K (.ref (xf 18)) = some (.type "function")
  F18 : Fun K "__init__" "TooGreat.__init__" xm18 (xf 18) (xd 18)
  n18 : Binds K (xd 18) ["self", "size"] []
  b18 : XIni K mg "ValueError.__init__" "TooMuch" (xa 16)
  f18_size : PySem.W.findIn K (.ref (xa 18)) "size" = some none
  x19 : XCls K mg Px.keTail "LookupError.__new__" "KeyError.__init__" "Absent" (xa 19)
  x20 : XCls K mg Px.keTail "LookupError.__new__" "KeyError.__init__" "NoName" (xa 20)
  i20 : PySem.W.findIn K (.ref (xa 20)) "__init__" = some (some (.ref (xf 20)))
  t20 : PySem.W.typeIn K (.ref (xf 20)) = some (.type "function")
  F20 : Fun K "__init__" "NoName.__init__" xm20 (xf 20) (xd 20)
  n20 : Binds K (xd 20) ["self", "name"] []
  b20 : XIni K mg "KeyError.__init__" "Absent" (xa 19)
  f20_name : PySem.W.findIn K (.ref (xa 20)) "name" = some none
  x21 : XCls K mg Px.keTail "LookupError.__new__" "KeyError.__init__" "NoSpot" (xa 21)
  i21 : PySem.W.findIn K (.ref (xa 21)) "__init__" = some (some (.ref (xf 21)))
  t21 : PySem.W.typeIn K (.ref (xf 21)) = some (.type "function")
  F21 : Fun K "__init__" "NoSpot.__init__" xm21 (xf 21) (xd 21)
  n21 : Binds K (xd 21) ["self", "spot"] []
  b21 : XIni K mg "KeyError.__init__" "Absent" (xa 19)
  f21_spot : PySem.W.findIn K (.ref (xa 21)) "spot" = some none
  x22 : XCls K mg Px.keTail "LookupError.__new__" "KeyError.__init__" "NoLibrary" (xa 22)
  i22 : PySem.W.findIn K (.ref (xa 22)) "__init__" = some (some (.ref (xf 22)))
  t22 : PySem.W.typeIn K (.ref (xf 22)) = some (.type "function")
  F22 : Fun K "__init__" "NoLibrary.__init__" xm22 (xf 22) (xd 22)
  n22 : Binds K (xd 22) ["self", "lib"] []
  b22 : XIni K mg "KeyError.__init__" "Absent" (xa 19)
  f22_lib : PySem.W.findIn K (.ref (xa 22)) "lib" = some none
  x23 : XCls K mg Px.keTail "LookupError.__new__" "KeyError.__init__" "NoHole" (xa 23)
  i23 : PySem.W.findIn K (.ref (xa 23)) "__init__" = some (some (.ref (xf 23)))
  t23 : PySem.W.typeIn K (.ref (xf 23)) = some (.type "function")
  F23 : Fun K "__init__" "NoHole.__init__" xm23 (xf 23) (xd 23)
  n23 : Binds K (xd 23) ["self", "hole"] []
  b23 : XIni K mg "KeyError.__init__" "Absent" (xa 19)
  f23_hole : PySem.W.findIn K (.ref (xa 23)) "hole" = some none
  x24 : XCls K mg Px.keTail "LookupError.__new__" "KeyError.__init__" "NoPicture" (xa 24)
  i24 : PySem.W.findIn K (.ref (xa 24)) "__init__" = some (some (.ref (xf 24)))
  t24 : PySem.W.typeIn K (.ref (xf 24)) = some (.type "function")
  F24 : Fun K "__init__" "NoPicture.__init__" xm24 (xf 24) (xd 24)
  n24 : Binds K (xd 24) ["self", "n"] []
  b24 : XIni K mg "KeyError.__init__" "Absent" (xa 19)
  f24_n : PySem.W.findIn K (.ref (xa 24)) "n" = some none
  x25 : XCls K mg Px.keTail "LookupError.__new__" "KeyError.__init__" "NoWorth" (xa 25)
  i25 : PySem.W.findIn K (.ref (xa 25)) "__init__" = some (some (.ref (xf 25)))
  t25 : PySem.W.typeIn K (.ref (xf 25)) = some (.type "function")
  F25 : Fun K "__init__" "NoWorth.__init__" xm25 (xf 25) (xd 25)
  n25 : Binds K (xd 25) ["self", "n"] []
  b25 : XIni K mg "KeyError.__init__" "Absent" (xa 19)
  f25_n : PySem.W.findIn K (.ref (xa 25)) "n" = some none
  s_NoText : IsAll K mg (.ref (xa 1)) is_NoText
  s_NoItem : IsAll K mg (.ref (xa 2)) is_NoItem
  s_NoTerm : IsAll K mg (.ref (xa 3)) is_NoTerm
  s_Taken : IsAll K mg (.ref (xa 4)) is_Taken
  s_Unjudged : IsAll K mg (.ref (xa 5)) is_Unjudged
  s_Holds : IsAll K mg (.ref (xa 6)) is_Holds
  s_NoRow : IsAll K mg (.ref (xa 7)) is_NoRow
  s_NoEnd : IsAll K mg (.ref (xa 8)) is_NoEnd
  s_Ring : IsAll K mg (.ref (xa 9)) is_Ring
  s_Lacks : IsAll K mg (.ref (xa 10)) is_Lacks
  s_Unclear : IsAll K mg (.ref (xa 11)) is_Unclear
  s_Idle : IsAll K mg (.ref (xa 12)) is_Idle
  s_Broken : IsAll K mg (.ref (xa 13)) is_Broken
  s_Holed : IsAll K mg (.ref (xa 14)) is_Holed
  s_NoBack : IsAll K mg (.ref (xa 15)) is_NoBack
  s_TooLong : IsAll K mg (.ref (xa 17)) is_TooLong
  s_TooGreat : IsAll K mg (.ref (xa 18)) is_TooGreat
  s_NoName : IsAll K mg (.ref (xa 20)) is_NoName
  s_NoSpot : IsAll K mg (.ref (xa 21)) is_NoSpot
  s_NoLibrary : IsAll K mg (.ref (xa 22)) is_NoLibrary
  s_NoHole : IsAll K mg (.ref (xa 23)) is_NoHole
  s_NoPicture : IsAll K mg (.ref (xa 24)) is_NoPicture
  s_NoWorth : IsAll K mg (.ref (xa 25)) is_NoWorth
  s_TooMuch : IsAll K mg (.ref (xa 16)) is_TooMuch
  s_TongueError : IsAll K mg (.ref (xa 0)) is_TongueError
  s_ValueError : IsAll K mg (.type "ValueError") is_ValueError
  s_Absent : IsAll K mg (.ref (xa 19)) is_Absent
  s_KeyError : IsAll K mg (.type "KeyError") is_KeyError
  f_spot : FldAll K mg "spot" fl_spot
  f_word : FldAll K mg "word" fl_word
  f_shape : FldAll K mg "shape" fl_shape
  f_k : FldAll K mg "k" fl_k
  f_row : FldAll K mg "row" fl_row
  f_name : FldAll K mg "name" fl_name
  f_names : FldAll K mg "names" fl_names
  f_arguments : FldAll K mg "arguments" fl_arguments
  f_many : FldAll K mg "many" fl_many
  f_most : FldAll K mg "most" fl_most
  f_size : FldAll K mg "size" fl_size
  f_lib : FldAll K mg "lib" fl_lib
  f_hole : FldAll K mg "hole" fl_hole
  f_n : FldAll K mg "n" fl_n
  d0 : DA K mg "_law_deck" s0 ["script"] (fa 0) (fd 0)
  d1 : DA K mg "_law_draw" s1 ["deck", "ways"] (fa 1) (fd 1)
  d2 : DA K mg "_law_name" s2 ["deck"] (fa 2) (fd 2)
  d3 : DA K mg "_law_far" s3 ["deck"] (fa 3) (fd 3)
  d4 : DA K mg "_law_called" s4 ["deck"] (fa 4) (fd 4)
  d5 : DA K mg "_law_marks" s5 ["e"] (fa 5) (fd 5)
  d6 : DA K mg "_law_made" s6 ["k", "one", "two"] (fa 6) (fd 6)
  d7 : DA K mg "_law_made_further" s7 ["k", "one"] (fa 7) (fd 7)
  d8 : DA K mg "_law_fields" s8 ["k", "e"] (fa 8) (fd 8)
  d9 : DA K mg "_law_things" s9 ["deck", "k"] (fa 9) (fd 9)
  d10 : DA K mg "_law_due_marks" s10 ["k"] (fa 10) (fd 10)
  d11 : DA K mg "law" s11 ["script"] (fa 11) (fd 11)
  z_KeyError : mg "KeyError" = none
  z_ValueError : mg "ValueError" = none
  z_int : mg "int" = none
  z_isinstance : mg "isinstance" = none
  z_len : mg "len" = none
  z_list : mg "list" = none
  z_range : mg "range" = none
  z_repr : mg "repr" = none
  z_str : mg "str" = none
  z_sum : mg "sum" = none
  z_tuple : mg "tuple" = none
theorem sc0 : FnScope ["script", "cells", "cell"] ["script"] (defScope s0) := ⟨rfl, rfl, rfl, by decide +kernel, rfl, by decide +kernel, by decide +kernel⟩
theorem sc1 : FnScope ["deck", "ways", "cell", "mixed"] ["deck", "ways"] (defScope s1) := ⟨rfl, rfl, rfl, by decide +kernel, rfl, by decide +kernel, by decide +kernel⟩
theorem sc2 : FnScope ["deck", "letters", "many", "first", "step", "k"] ["deck"] (defScope s2) := ⟨rfl, rfl, rfl, by decide +kernel, rfl, by decide +kernel, by decide +kernel⟩
theorem sc3 : FnScope ["deck", "number"] ["deck"] (defScope s3) := ⟨rfl, rfl, rfl, by decide +kernel, rfl, by decide +kernel, by decide +kernel⟩
theorem sc4 : FnScope ["deck"] ["deck"] (defScope s4) := ⟨rfl, rfl, rfl, by decide +kernel, rfl, by decide +kernel, by decide +kernel⟩
theorem sc5 : FnScope ["e", "some", "above"] ["e"] (defScope s5) := ⟨rfl, rfl, rfl, by decide +kernel, rfl, by decide +kernel, by decide +kernel⟩
theorem sc6 : FnScope ["k", "one", "two"] ["k", "one", "two"] (defScope s6) := ⟨rfl, rfl, rfl, by decide +kernel, rfl, by decide +kernel, by decide +kernel⟩
theorem sc7 : FnScope ["k", "one"] ["k", "one"] (defScope s7) := ⟨rfl, rfl, rfl, by decide +kernel, rfl, by decide +kernel, by decide +kernel⟩
theorem sc8 : FnScope ["k", "e"] ["k", "e"] (defScope s8) := ⟨rfl, rfl, rfl, by decide +kernel, rfl, by decide +kernel, by decide +kernel⟩
theorem sc9 : FnScope ["deck", "k", "spot", "word", "name", "number", "turn"] ["deck", "k"] (defScope s9) := ⟨rfl, rfl, rfl, by decide +kernel, rfl, by decide +kernel, by decide +kernel⟩
theorem sc10 : FnScope ["k", "own", "at"] ["k"] (defScope s10) := ⟨rfl, rfl, rfl, by decide +kernel, rfl, by decide +kernel, by decide +kernel⟩
theorem sc11 : FnScope ["script", "deck", "left", "ones", "turn", "k", "again", "one", "two", "e", "due"] ["script"] (defScope s11) := ⟨rfl, rfl, rfl, by decide +kernel, rfl, by decide +kernel, by decide +kernel⟩
section
variable [Codes] {P : Program} {w : World} {K : PySem.W.Frag} {mg : Str → Option Value} {base : Heap} {fa : Nat → Addr} {fd : Nat → FuncData} {xa xf : Nat → Addr} {xd : Nat → FuncData} {k : Nat} {R : Nat → FM}
theorem xsc4 : FnScope ["self", "name"] ["self", "name"] (defScope xm4) := ⟨rfl, rfl, rfl, by decide +kernel, rfl, by decide +kernel, by decide +kernel⟩
theorem ini4 (M : Mod K mg fa fd xa xf xd) : ∀ j, FnG P w K mg base (j + 1) (xf 4) (xd 4) ["self", "name"] (spIn (xa 4) ["name"]) := fun j => fn_init1 M.x4 M.f4_name M.F4 xsc4 fun cdv A outer s H E => pss_cons (ps_expr (pe_xini Px.xb_VE M.b4 (by rfl) (pa_cons (pv 0) (pa_cons pe_str pa_nil)))) (pss_one (ps_xput Px.xb_VE (pv 0) (pv 1)))
theorem xsc5 : FnScope ["self", "spot", "word"] ["self", "spot", "word"] (defScope xm5) := ⟨rfl, rfl, rfl, by decide +kernel, rfl, by decide +kernel, by decide +kernel⟩
theorem ini5 (M : Mod K mg fa fd xa xf xd) : ∀ j, FnG P w K mg base (j + 1) (xf 5) (xd 5) ["self", "spot", "word"] (spIn (xa 5) ["spot", "word"]) := fun j => fn_init2 M.x5 M.f5_spot M.f5_word (by decide) M.F5 xsc5 fun cdv A outer s H E => pss_cons (ps_expr (pe_xini Px.xb_VE M.b5 (by rfl) (pa_cons (pv 0) (pa_cons pe_str pa_nil)))) (pss_cons (ps_xput Px.xb_VE (pv 0) (pv 1)) (pss_one (ps_xput Px.xb_VE (pv 0) (pv 2))))
theorem xsc6 : FnScope ["self", "shape", "k"] ["self", "shape", "k"] (defScope xm6) := ⟨rfl, rfl, rfl, by decide +kernel, rfl, by decide +kernel, by decide +kernel⟩
theorem ini6 (M : Mod K mg fa fd xa xf xd) : ∀ j, FnG P w K mg base (j + 1) (xf 6) (xd 6) ["self", "shape", "k"] (spIn (xa 6) ["shape", "k"]) := fun j => fn_init2 M.x6 M.f6_shape M.f6_k (by decide) M.F6 xsc6 fun cdv A outer s H E => pss_cons (ps_expr (pe_xini Px.xb_VE M.b6 (by rfl) (pa_cons (pv 0) (pa_cons pe_str pa_nil)))) (pss_cons (ps_xput Px.xb_VE (pv 0) (pv 1)) (pss_one (ps_xput Px.xb_VE (pv 0) (pv 2))))
theorem xsc7 : FnScope ["self", "row", "word"] ["self", "row", "word"] (defScope xm7) := ⟨rfl, rfl, rfl, by decide +kernel, rfl, by decide +kernel, by decide +kernel⟩
theorem ini7 (M : Mod K mg fa fd xa xf xd) : ∀ j, FnG P w K mg base (j + 1) (xf 7) (xd 7) ["self", "row", "word"] (spIn (xa 7) ["row", "word"]) := fun j => fn_init2 M.x7 M.f7_row M.f7_word (by decide) M.F7 xsc7 fun cdv A outer s H E => pss_cons (ps_expr (pe_xini Px.xb_VE M.b7 (by rfl) (pa_cons (pv 0) (pa_cons pe_str pa_nil)))) (pss_cons (ps_xput Px.xb_VE (pv 0) (pv 1)) (pss_one (ps_xput Px.xb_VE (pv 0) (pv 2))))
theorem xsc8 : FnScope ["self", "name", "row"] ["self", "name", "row"] (defScope xm8) := ⟨rfl, rfl, rfl, by decide +kernel, rfl, by decide +kernel, by decide +kernel⟩
theorem ini8 (M : Mod K mg fa fd xa xf xd) : ∀ j, FnG P w K mg base (j + 1) (xf 8) (xd 8) ["self", "name", "row"] (spIn (xa 8) ["name", "row"]) := fun j => fn_init2 M.x8 M.f8_name M.f8_row (by decide) M.F8 xsc8 fun cdv A outer s H E => pss_cons (ps_expr (pe_xini Px.xb_VE M.b8 (by rfl) (pa_cons (pv 0) (pa_cons pe_str pa_nil)))) (pss_cons (ps_xput Px.xb_VE (pv 0) (pv 1)) (pss_one (ps_xput Px.xb_VE (pv 0) (pv 2))))
theorem xsc9 : FnScope ["self", "names"] ["self", "names"] (defScope xm9) := ⟨rfl, rfl, rfl, by decide +kernel, rfl, by decide +kernel, by decide +kernel⟩
theorem ini9 (M : Mod K mg fa fd xa xf xd) : ∀ j, FnG P w K mg base (j + 1) (xf 9) (xd 9) ["self", "names"] (spIn (xa 9) ["names"]) := fun j => fn_init1 M.x9 M.f9_names M.F9 xsc9 fun cdv A outer s H E => pss_cons (ps_expr (pe_xini Px.xb_VE M.b9 (by rfl) (pa_cons (pv 0) (pa_cons pe_str pa_nil)))) (pss_one (ps_xput Px.xb_VE (pv 0) (pv 1)))
theorem xsc10 : FnScope ["self", "name", "arguments"] ["self", "name", "arguments"] (defScope xm10) := ⟨rfl, rfl, rfl, by decide +kernel, rfl, by decide +kernel, by decide +kernel⟩
theorem ini10 (M : Mod K mg fa fd xa xf xd) : ∀ j, FnG P w K mg base (j + 1) (xf 10) (xd 10) ["self", "name", "arguments"] (spIn (xa 10) ["name", "arguments"]) := fun j => fn_init2 M.x10 M.f10_name M.f10_arguments (by decide) M.F10 xsc10 fun cdv A outer s H E => pss_cons (ps_expr (pe_xini Px.xb_VE M.b10 (by rfl) (pa_cons (pv 0) (pa_cons pe_str pa_nil)))) (pss_cons (ps_xput Px.xb_VE (pv 0) (pv 1)) (pss_one (ps_xput Px.xb_VE (pv 0) (pv 2))))
theorem xsc11 : FnScope ["self", "name"] ["self", "name"] (defScope xm11) := ⟨rfl, rfl, rfl, by decide +kernel, rfl, by decide +kernel, by decide +kernel⟩
theorem ini11 (M : Mod K mg fa fd xa xf xd) : ∀ j, FnG P w K mg base (j + 1) (xf 11) (xd 11) ["self", "name"] (spIn (xa 11) ["name"]) := fun j => fn_init1 M.x11 M.f11_name M.F11 xsc11 fun cdv A outer s H E => pss_cons (ps_expr (pe_xini Px.xb_VE M.b11 (by rfl) (pa_cons (pv 0) (pa_cons pe_str pa_nil)))) (pss_one (ps_xput Px.xb_VE (pv 0) (pv 1)))
theorem xsc12 : FnScope ["self", "name", "row"] ["self", "name", "row"] (defScope xm12) := ⟨rfl, rfl, rfl, by decide +kernel, rfl, by decide +kernel, by decide +kernel⟩
theorem ini12 (M : Mod K mg fa fd xa xf xd) : ∀ j, FnG P w K mg base (j + 1) (xf 12) (xd 12) ["self", "name", "row"] (spIn (xa 12) ["name", "row"]) := fun j => fn_init2 M.x12 M.f12_name M.f12_row (by decide) M.F12 xsc12 fun cdv A outer s H E => pss_cons (ps_expr (pe_xini Px.xb_VE M.b12 (by rfl) (pa_cons (pv 0) (pa_cons pe_str pa_nil)))) (pss_cons (ps_xput Px.xb_VE (pv 0) (pv 1)) (pss_one (ps_xput Px.xb_VE (pv 0) (pv 2))))
theorem xsc13 : FnScope ["self", "name"] ["self", "name"] (defScope xm13) := ⟨rfl, rfl, rfl, by decide +kernel, rfl, by decide +kernel, by decide +kernel⟩
theorem ini13 (M : Mod K mg fa fd xa xf xd) : ∀ j, FnG P w K mg base (j + 1) (xf 13) (xd 13) ["self", "name"] (spIn (xa 13) ["name"]) := fun j => fn_init1 M.x13 M.f13_name M.F13 xsc13 fun cdv A outer s H E => pss_cons (ps_expr (pe_xini Px.xb_VE M.b13 (by rfl) (pa_cons (pv 0) (pa_cons pe_str pa_nil)))) (pss_one (ps_xput Px.xb_VE (pv 0) (pv 1)))
theorem xsc14 : FnScope ["self", "name"] ["self", "name"] (defScope xm14) := ⟨rfl, rfl, rfl, by decide +kernel, rfl, by decide +kernel, by decide +kernel⟩
theorem ini14 (M : Mod K mg fa fd xa xf xd) : ∀ j, FnG P w K mg base (j + 1) (xf 14) (xd 14) ["self", "name"] (spIn (xa 14) ["name"]) := fun j => fn_init1 M.x14 M.f14_name M.F14 xsc14 fun cdv A outer s H E => pss_cons (ps_expr (pe_xini Px.xb_VE M.b14 (by rfl) (pa_cons (pv 0) (pa_cons pe_str pa_nil)))) (pss_one (ps_xput Px.xb_VE (pv 0) (pv 1)))
theorem xsc15 : FnScope ["self", "many"] ["self", "many"] (defScope xm15) := ⟨rfl, rfl, rfl, by decide +kernel, rfl, by decide +kernel, by decide +kernel⟩
theorem ini15 (M : Mod K mg fa fd xa xf xd) : ∀ j, FnG P w K mg base (j + 1) (xf 15) (xd 15) ["self", "many"] (spIn (xa 15) ["many"]) := fun j => fn_init1 M.x15 M.f15_many M.F15 xsc15 fun cdv A outer s H E => pss_cons (ps_expr (pe_xini Px.xb_VE M.b15 (by rfl) (pa_cons (pv 0) (pa_cons pe_str pa_nil)))) (pss_one (ps_xput Px.xb_VE (pv 0) (pv 1)))
theorem xsc17 : FnScope ["self", "most"] ["self", "most"] (defScope xm17) := ⟨rfl, rfl, rfl, by decide +kernel, rfl, by decide +kernel, by decide +kernel⟩
theorem ini17 (M : Mod K mg fa fd xa xf xd) : ∀ j, FnG P w K mg base (j + 1) (xf 17) (xd 17) ["self", "most"] (spIn (xa 17) ["most"]) := fun j => fn_init1 M.x17 M.f17_most M.F17 xsc17 fun cdv A outer s H E => pss_cons (ps_expr (pe_xini Px.xb_VE M.b17 (by rfl) (pa_cons (pv 0) (pa_cons pe_str pa_nil)))) (pss_one (ps_xput Px.xb_VE (pv 0) (pv 1)))
theorem xsc18 : FnScope ["self", "size"] ["self", "size"] (defScope xm18) := ⟨rfl, rfl, rfl, by decide +kernel, rfl, by decide +kernel, by decide +kernel⟩
theorem ini18 (M : Mod K mg fa fd xa xf xd) : ∀ j, FnG P w K mg base (j + 1) (xf 18) (xd 18) ["self", "size"] (spIn (xa 18) ["size"]) := fun j => fn_init1 M.x18 M.f18_size M.F18 xsc18 fun cdv A outer s H E => pss_cons (ps_expr (pe_xini Px.xb_VE M.b18 (by rfl) (pa_cons (pv 0) (pa_cons pe_str pa_nil)))) (pss_one (ps_xput Px.xb_VE (pv 0) (pv 1)))
theorem xsc20 : FnScope ["self", "name"] ["self", "name"] (defScope xm20) := ⟨rfl, rfl, rfl, by decide +kernel, rfl, by decide +kernel, by decide +kernel⟩
theorem ini20 (M : Mod K mg fa fd xa xf xd) : ∀ j, FnG P w K mg base (j + 1) (xf 20) (xd 20) ["self", "name"] (spIn (xa 20) ["name"]) := fun j => fn_init1 M.x20 M.f20_name M.F20 xsc20 fun cdv A outer s H E => pss_cons (ps_expr (pe_xini Px.xb_KE M.b20 (by rfl) (pa_cons (pv 0) (pa_cons pe_str pa_nil)))) (pss_one (ps_xput Px.xb_KE (pv 0) (pv 1)))
theorem xsc21 : FnScope ["self", "spot"] ["self", "spot"] (defScope xm21) := ⟨rfl, rfl, rfl, by decide +kernel, rfl, by decide +kernel, by decide +kernel⟩
theorem ini21 (M : Mod K mg fa fd xa xf xd) : ∀ j, FnG P w K mg base (j + 1) (xf 21) (xd 21) ["self", "spot"] (spIn (xa 21) ["spot"]) := fun j => fn_init1 M.x21 M.f21_spot M.F21 xsc21 fun cdv A outer s H E => pss_cons (ps_expr (pe_xini Px.xb_KE M.b21 (by rfl) (pa_cons (pv 0) (pa_cons pe_str pa_nil)))) (pss_one (ps_xput Px.xb_KE (pv 0) (pv 1)))
theorem xsc22 : FnScope ["self", "lib"] ["self", "lib"] (defScope xm22) := ⟨rfl, rfl, rfl, by decide +kernel, rfl, by decide +kernel, by decide +kernel⟩
theorem ini22 (M : Mod K mg fa fd xa xf xd) : ∀ j, FnG P w K mg base (j + 1) (xf 22) (xd 22) ["self", "lib"] (spIn (xa 22) ["lib"]) := fun j => fn_init1 M.x22 M.f22_lib M.F22 xsc22 fun cdv A outer s H E => pss_cons (ps_expr (pe_xini Px.xb_KE M.b22 (by rfl) (pa_cons (pv 0) (pa_cons pe_str pa_nil)))) (pss_one (ps_xput Px.xb_KE (pv 0) (pv 1)))
theorem xsc23 : FnScope ["self", "hole"] ["self", "hole"] (defScope xm23) := ⟨rfl, rfl, rfl, by decide +kernel, rfl, by decide +kernel, by decide +kernel⟩
theorem ini23 (M : Mod K mg fa fd xa xf xd) : ∀ j, FnG P w K mg base (j + 1) (xf 23) (xd 23) ["self", "hole"] (spIn (xa 23) ["hole"]) := fun j => fn_init1 M.x23 M.f23_hole M.F23 xsc23 fun cdv A outer s H E => pss_cons (ps_expr (pe_xini Px.xb_KE M.b23 (by rfl) (pa_cons (pv 0) (pa_cons pe_str pa_nil)))) (pss_one (ps_xput Px.xb_KE (pv 0) (pv 1)))
theorem xsc24 : FnScope ["self", "n"] ["self", "n"] (defScope xm24) := ⟨rfl, rfl, rfl, by decide +kernel, rfl, by decide +kernel, by decide +kernel⟩
theorem ini24 (M : Mod K mg fa fd xa xf xd) : ∀ j, FnG P w K mg base (j + 1) (xf 24) (xd 24) ["self", "n"] (spIn (xa 24) ["n"]) := fun j => fn_init1 M.x24 M.f24_n M.F24 xsc24 fun cdv A outer s H E => pss_cons (ps_expr (pe_xini Px.xb_KE M.b24 (by rfl) (pa_cons (pv 0) (pa_cons pe_str pa_nil)))) (pss_one (ps_xput Px.xb_KE (pv 0) (pv 1)))
theorem xsc25 : FnScope ["self", "n"] ["self", "n"] (defScope xm25) := ⟨rfl, rfl, rfl, by decide +kernel, rfl, by decide +kernel, by decide +kernel⟩
theorem ini25 (M : Mod K mg fa fd xa xf xd) : ∀ j, FnG P w K mg base (j + 1) (xf 25) (xd 25) ["self", "n"] (spIn (xa 25) ["n"]) := fun j => fn_init1 M.x25 M.f25_n M.F25 xsc25 fun cdv A outer s H E => pss_cons (ps_expr (pe_xini Px.xb_KE M.b25 (by rfl) (pa_cons (pv 0) (pa_cons pe_str pa_nil)))) (pss_one (ps_xput Px.xb_KE (pv 0) (pv 1)))
theorem rg_ok (M : Mod K mg fa fd xa xf xd) (hR : ∀ j, j < 12 → FnG P w K mg base k (fa j) (fd j) (psOf j) (spD ⟨K, mg⟩ (psOf j).length (R j))) : ∀ y n G, rg R y = some (n, G) → ∃ f fd ps, mg y = some (.ref f) ∧ PySem.W.keepIn K (.ref f) = true ∧ Binds K fd ps [] ∧ FnG P w K mg base k f fd ps (spD ⟨K, mg⟩ n G) := by
  intro y n G h
  unfold rg at h
  cases h
set_option maxHeartbeats 4000000 in
theorem ok0 (M : Mod K mg fa fd xa xf xd) (hR : ∀ j, j < 12 → FnG P w K mg base k (fa j) (fd j) (psOf j) (spD ⟨K, mg⟩ (psOf j).length (R j))) (hU : up R = true → 2 ≤ k)  : FnG P w K mg base (k + 1) (fa 0) (fd 0) (psOf 0) (spD ⟨K, mg⟩ (psOf 0).length (bodyOf 0 R)) :=
  fnD M.d0.F sc0 fun cdv A outer s H0 E hB hP => pds_cons (pds_set (i := 1) (pd_ty call_listD (pda_cons (pda_nil) (pd_slice (pd_var 0 (pv 0)) (pdo_none) (pdo_some (pd_int)))) M.z_list) hB.nd) (pds_one (pds_ret (pd_lstC (pda_cons (pda_cons (pda_cons (pda_nil) (pd_int)) (pd_op op_addD (pd_blt (call_sumD hB.calm) (pda_cons (pda_nil) (pd_lc (own := [("cell", 2)]) (pdi_any (pd_var 1 (pv 1))) (fun _ _ _ _ _ => pdg_name (i := 2) hB.nd) (fun _ _ _ _ _ => pdts_nil) (fun _ _ _ _ _ => pd_op op_modD (pd_var 2 (pv 2)) (pd_int)) hB.calm hB.nd (blkc_of (N := ["script", "cells", "cell"]) (sc := defScope s0) rfl rfl (by decide +kernel)))) M.z_sum) (pd_op op_mulD (pd_int) (pd_blt call_lenD (pda_cons (pda_nil) (pd_var 1 (pv 1))) M.z_len)))) (pd_revC (pd_var 1 (pv 1)))))))
set_option maxHeartbeats 4000000 in
theorem ok1 (M : Mod K mg fa fd xa xf xd) (hR : ∀ j, j < 12 → FnG P w K mg base k (fa j) (fd j) (psOf j) (spD ⟨K, mg⟩ (psOf j).length (R j))) (hU : up R = true → 2 ≤ k)  : FnG P w K mg base (k + 1) (fa 1) (fd 1) (psOf 1) (spD ⟨K, mg⟩ (psOf 1).length (bodyOf 1 R)) :=
  fnD M.d1.F sc1 fun cdv A outer s H0 E hB hP => pds_cons (pds_setIx (pd_op op_addD (pd_ix (pd_var 0 (pv 0)) (pd_int)) (pd_int)) (pd_var 0 (pv 0)) (pd_int)) (pds_cons (pds_set (i := 2) (pd_ix (pd_var 0 (pv 0)) (pd_int)) hB.nd) (pds_cons (pds_if (pdt_cmp (op_neD' hB.rg) (pd_ix (pd_var 0 (pv 0)) (pd_int)) (pd_lst (pda_nil))) (pds_cons (pds_set (i := 2) (pd_mt0 mt_popD PySem.F.plainAttrs_list PySem.F.slot_list_pop PySem.F.type_list_pop (pd_ix (pd_var 0 (pv 0)) (pd_int))) hB.nd) (pds_one (pds_if (pdt_cmp op_geD (pd_var 2 (pv 2)) (pd_op op_powD (pd_int) (pd_int))) (pds_cons (pds_expr (pd_mt mt_appendD PySem.F.plainAttrs_list PySem.F.slot_list_append PySem.F.type_list_append (pd_ix (pd_var 0 (pv 0)) (pd_int)) (pda_cons (pda_nil) (pd_op op_fdivD (pd_var 2 (pv 2)) (pd_var 1 (pv 1)))))) (pds_one (pds_ret (pd_op op_modD (pd_var 2 (pv 2)) (pd_var 1 (pv 1)))))) (pds_nil)))) (pds_nil)) (pds_cons (pds_set (i := 3) (pd_op op_modD (pd_op op_mulD (pd_op op_addD (pd_op op_addD (pd_op op_modD (pd_var 2 (pv 2)) (pd_int)) (pd_op op_mulD (pd_int) (pd_ix (pd_var 0 (pv 0)) (pd_int)))) (pd_int)) (pd_int)) (pd_int)) hB.nd) (pds_cons (pds_set (i := 3) (pd_op op_modD (pd_op op_addD (pd_op op_addD (pd_op op_mulD (pd_var 3 (pv 3)) (pd_var 3 (pv 3))) (pd_op op_mulD (pd_int) (pd_ix (pd_var 0 (pv 0)) (pd_int)))) (pd_int)) (pd_int)) hB.nd) (pds_one (pds_ret (pd_op op_modD (pd_op op_fdivD (pd_op op_modD (pd_op op_addD (pd_op op_mulD (pd_var 3 (pv 3)) (pd_var 3 (pv 3))) (pd_op op_mulD (pd_int) (pd_var 3 (pv 3)))) (pd_int)) (pd_int)) (pd_var 1 (pv 1)))))))))
set_option maxHeartbeats 4000000 in
theorem ok2 (M : Mod K mg fa fd xa xf xd) (hR : ∀ j, j < 12 → FnG P w K mg base k (fa j) (fd j) (psOf j) (spD ⟨K, mg⟩ (psOf j).length (R j))) (hU : up R = true → 2 ≤ k)  : FnG P w K mg base (k + 1) (fa 2) (fd 2) (psOf 2) (spD ⟨K, mg⟩ (psOf 2).length (bodyOf 2 R)) :=
  fnD M.d2.F sc2 fun cdv A outer s H0 E hB hP => pds_cons (pds_set (i := 1) (pd_str) hB.nd) (pds_cons (pds_set (i := 2) (pd_ix (pd_lst (pda_cons (pda_cons (pda_cons (pda_cons (pda_nil) (pd_int)) (pd_op op_addD (pd_int) (pd_call (hR 1 (by decide)) M.d1.mg M.d1.kp M.d1.b hB (pda_cons (pda_cons (pda_nil) (pd_int)) (pd_var 0 (pv 0)))))) (pd_int)) (pd_int))) (pd_call (hR 1 (by decide)) M.d1.mg M.d1.kp M.d1.b hB (pda_cons (pda_cons (pda_nil) (pd_int)) (pd_var 0 (pv 0))))) hB.nd) (pds_cons (pds_set (i := 3) (pd_call (hR 1 (by decide)) M.d1.mg M.d1.kp M.d1.b hB (pda_cons (pda_cons (pda_nil) (pd_int)) (pd_var 0 (pv 0)))) hB.nd) (pds_cons (pds_set (i := 4) (pd_call (hR 1 (by decide)) M.d1.mg M.d1.kp M.d1.b hB (pda_cons (pda_cons (pda_nil) (pd_int)) (pd_var 0 (pv 0)))) hB.nd) (pds_one (pds_ret (pd_mt mt_joinD PySem.F.plainAttrs_str PySem.F.slot_str_join PySem.F.type_str_join (pd_str) (pda_cons (pda_nil) (pd_lc (own := [("k", 5)]) (pdi_rng1 (pd_var 2 (pv 2)) M.z_range) (fun _ _ _ _ _ => pdg_name (i := 5) hB.nd) (fun _ _ _ _ _ => pdts_nil) (fun _ _ _ _ _ => pd_ix (pd_var 1 (pv 1)) (pd_op op_modD (pd_op op_addD (pd_var 3 (pv 3)) (pd_op op_mulD (pd_var 4 (pv 4)) (pd_var 5 (pv 5)))) (pd_int))) hB.calm hB.nd (blkc_of (N := ["deck", "letters", "many", "first", "step", "k"]) (sc := defScope s2) rfl rfl (by decide +kernel))))))))))
set_option maxHeartbeats 4000000 in
theorem ok3 (M : Mod K mg fa fd xa xf xd) (hR : ∀ j, j < 12 → FnG P w K mg base k (fa j) (fd j) (psOf j) (spD ⟨K, mg⟩ (psOf j).length (R j))) (hU : up R = true → 2 ≤ k)  : FnG P w K mg base (k + 1) (fa 3) (fd 3) (psOf 3) (spD ⟨K, mg⟩ (psOf 3).length (bodyOf 3 R)) :=
  fnD M.d3.F sc3 fun cdv A outer s H0 E hB hP => pds_cons (pds_set (i := 1) (pd_ix (pd_lst (pda_cons (pda_cons (pda_cons (pda_cons (pda_cons (pda_nil) (pd_op op_powD (pd_int) (pd_int))) (pd_op op_addD (pd_int) (pd_call (hR 1 (by decide)) M.d1.mg M.d1.kp M.d1.b hB (pda_cons (pda_cons (pda_nil) (pd_int)) (pd_var 0 (pv 0)))))) (pd_int)) (pd_int)) (pd_int))) (pd_call (hR 1 (by decide)) M.d1.mg M.d1.kp M.d1.b hB (pda_cons (pda_cons (pda_nil) (pd_int)) (pd_var 0 (pv 0))))) hB.nd) (pds_one (pds_ret (pd_op op_addD (pd_op op_addD (pd_op op_addD (pd_op op_addD (pd_call (hR 2 (by decide)) M.d2.mg M.d2.kp M.d2.b hB (pda_cons (pda_nil) (pd_var 0 (pv 0)))) (pd_str)) (pd_ty call_strD (pda_cons (pda_nil) (pd_var 1 (pv 1))) M.z_str)) (pd_str)) (pd_call (hR 2 (by decide)) M.d2.mg M.d2.kp M.d2.b hB (pda_cons (pda_nil) (pd_var 0 (pv 0)))))))
set_option maxHeartbeats 4000000 in
theorem ok4 (M : Mod K mg fa fd xa xf xd) (hR : ∀ j, j < 12 → FnG P w K mg base k (fa j) (fd j) (psOf j) (spD ⟨K, mg⟩ (psOf j).length (R j))) (hU : up R = true → 2 ≤ k)  : FnG P w K mg base (k + 1) (fa 4) (fd 4) (psOf 4) (spD ⟨K, mg⟩ (psOf 4).length (bodyOf 4 R)) :=
  fnD M.d4.F sc4 fun cdv A outer s H0 E hB hP => pds_one (pds_ret (pd_if (pdt_cmp (op_eqD' hB.rg) (pd_call (hR 1 (by decide)) M.d1.mg M.d1.kp M.d1.b hB (pda_cons (pda_cons (pda_nil) (pd_int)) (pd_var 0 (pv 0)))) (pd_int)) (pd_call (hR 3 (by decide)) M.d3.mg M.d3.kp M.d3.b hB (pda_cons (pda_nil) (pd_var 0 (pv 0)))) (pd_call (hR 2 (by decide)) M.d2.mg M.d2.kp M.d2.b hB (pda_cons (pda_nil) (pd_var 0 (pv 0))))))
set_option maxHeartbeats 4000000 in
theorem ok5 (M : Mod K mg fa fd xa xf xd) (hR : ∀ j, j < 12 → FnG P w K mg base k (fa j) (fd j) (psOf j) (spD ⟨K, mg⟩ (psOf j).length (R j))) (hU : up R = true → 2 ≤ k)  : FnG P w K mg base (k + 1) (fa 5) (fd 5) (psOf 5) (spD ⟨K, mg⟩ (psOf 5).length (bodyOf 5 R)) :=
  fnD M.d5.F sc5 fun cdv A outer s H0 E hB hP => pds_cons (pds_set (i := 1) (pd_lst (pda_cons (pda_cons (pda_cons (pda_cons (pda_nil) (pd_isx M.s_Taken (pd_var 0 (pv 0)) M.z_isinstance M.x4.mg)) (pd_isx M.s_NoTerm (pd_var 0 (pv 0)) M.z_isinstance M.x3.mg)) (pd_isx M.s_NoItem (pd_var 0 (pv 0)) M.z_isinstance M.x2.mg)) (pd_isx M.s_NoText (pd_var 0 (pv 0)) M.z_isinstance M.x1.mg))) hB.nd) (pds_cons (pds_set (i := 1) (pd_op op_addD (pd_var 1 (pv 1)) (pd_lst (pda_cons (pda_cons (pda_cons (pda_cons (pda_nil) (pd_isx M.s_NoEnd (pd_var 0 (pv 0)) M.z_isinstance M.x8.mg)) (pd_isx M.s_NoRow (pd_var 0 (pv 0)) M.z_isinstance M.x7.mg)) (pd_isx M.s_Holds (pd_var 0 (pv 0)) M.z_isinstance M.x6.mg)) (pd_isx M.s_Unjudged (pd_var 0 (pv 0)) M.z_isinstance M.x5.mg)))) hB.nd) (pds_cons (pds_set (i := 1) (pd_op op_addD (pd_var 1 (pv 1)) (pd_lst (pda_cons (pda_cons (pda_cons (pda_cons (pda_nil) (pd_isx M.s_Idle (pd_var 0 (pv 0)) M.z_isinstance M.x12.mg)) (pd_isx M.s_Unclear (pd_var 0 (pv 0)) M.z_isinstance M.x11.mg)) (pd_isx M.s_Lacks (pd_var 0 (pv 0)) M.z_isinstance M.x10.mg)) (pd_isx M.s_Ring (pd_var 0 (pv 0)) M.z_isinstance M.x9.mg)))) hB.nd) (pds_cons (pds_set (i := 1) (pd_op op_addD (pd_var 1 (pv 1)) (pd_lst (pda_cons (pda_cons (pda_cons (pda_cons (pda_nil) (pd_isx M.s_TooLong (pd_var 0 (pv 0)) M.z_isinstance M.x17.mg)) (pd_isx M.s_NoBack (pd_var 0 (pv 0)) M.z_isinstance M.x15.mg)) (pd_isx M.s_Holed (pd_var 0 (pv 0)) M.z_isinstance M.x14.mg)) (pd_isx M.s_Broken (pd_var 0 (pv 0)) M.z_isinstance M.x13.mg)))) hB.nd) (pds_cons (pds_set (i := 1) (pd_op op_addD (pd_var 1 (pv 1)) (pd_lst (pda_cons (pda_cons (pda_cons (pda_cons (pda_nil) (pd_isx M.s_NoLibrary (pd_var 0 (pv 0)) M.z_isinstance M.x22.mg)) (pd_isx M.s_NoSpot (pd_var 0 (pv 0)) M.z_isinstance M.x21.mg)) (pd_isx M.s_NoName (pd_var 0 (pv 0)) M.z_isinstance M.x20.mg)) (pd_isx M.s_TooGreat (pd_var 0 (pv 0)) M.z_isinstance M.x18.mg)))) hB.nd) (pds_cons (pds_set (i := 1) (pd_op op_addD (pd_var 1 (pv 1)) (pd_lst (pda_cons (pda_cons (pda_cons (pda_nil) (pd_isx M.s_NoWorth (pd_var 0 (pv 0)) M.z_isinstance M.x25.mg)) (pd_isx M.s_NoPicture (pd_var 0 (pv 0)) M.z_isinstance M.x24.mg)) (pd_isx M.s_NoHole (pd_var 0 (pv 0)) M.z_isinstance M.x23.mg)))) hB.nd) (pds_cons (pds_set (i := 2) (pd_lst (pda_cons (pda_cons (pda_cons (pda_nil) (pd_isxB M.s_ValueError (pd_var 0 (pv 0)) M.z_isinstance M.z_ValueError (hv := by decide +kernel))) (pd_isx M.s_TongueError (pd_var 0 (pv 0)) M.z_isinstance M.x0.mg)) (pd_isx M.s_TooMuch (pd_var 0 (pv 0)) M.z_isinstance M.x16.mg))) hB.nd) (pds_one (pds_ret (pd_lst (pda_cons (pda_cons (pda_nil) (pd_op op_addD (pd_var 2 (pv 2)) (pd_lst (pda_cons (pda_cons (pda_nil) (pd_isxB M.s_KeyError (pd_var 0 (pv 0)) M.z_isinstance M.z_KeyError (hv := by decide +kernel))) (pd_isx M.s_Absent (pd_var 0 (pv 0)) M.z_isinstance M.x19.mg))))) (pd_var 1 (pv 1))))))))))))
set_option maxHeartbeats 4000000 in
theorem ok6 (M : Mod K mg fa fd xa xf xd) (hR : ∀ j, j < 12 → FnG P w K mg base k (fa j) (fd j) (psOf j) (spD ⟨K, mg⟩ (psOf j).length (R j))) (hU : up R = true → 2 ≤ k)  : FnG P w K mg base (k + 1) (fa 6) (fd 6) (psOf 6) (spD ⟨K, mg⟩ (psOf 6).length (bodyOf 6 R)) :=
  fnD M.d6.F sc6 fun cdv A outer s H0 E hB hP => pds_cons (pds_if (pdt_cmp (op_eqD' hB.rg) (pd_var 0 (pv 0)) (pd_int)) (pds_one (pds_ret (pd_mk0 PySem.F.excBase_ValueError M.e1 M.x1.mg M.x1.kp (pd_str)))) (pds_nil)) (pds_cons (pds_if (pdt_cmp (op_eqD' hB.rg) (pd_var 0 (pv 0)) (pd_int)) (pds_one (pds_ret (pd_mk0 PySem.F.excBase_ValueError M.e2 M.x2.mg M.x2.kp (pd_str)))) (pds_nil)) (pds_cons (pds_if (pdt_cmp (op_eqD' hB.rg) (pd_var 0 (pv 0)) (pd_int)) (pds_one (pds_ret (pd_mk0 PySem.F.excBase_ValueError M.e3 M.x3.mg M.x3.kp (pd_str)))) (pds_nil)) (pds_cons (pds_if (pdt_cmp (op_eqD' hB.rg) (pd_var 0 (pv 0)) (pd_int)) (pds_one (pds_ret (pd_mkx hU Px.xb_VE M.x4 M.i4 M.t4 (ini4 M) hB M.n4 (pda_cons (pda_nil) (pd_var 1 (pv 1)))))) (pds_nil)) (pds_cons (pds_if (pdt_cmp (op_eqD' hB.rg) (pd_var 0 (pv 0)) (pd_int)) (pds_one (pds_ret (pd_mkx hU Px.xb_VE M.x5 M.i5 M.t5 (ini5 M) hB M.n5 (pda_cons (pda_cons (pda_nil) (pd_var 2 (pv 2))) (pd_var 1 (pv 1)))))) (pds_nil)) (pds_cons (pds_if (pdt_cmp (op_eqD' hB.rg) (pd_var 0 (pv 0)) (pd_int)) (pds_one (pds_ret (pd_mkx hU Px.xb_VE M.x6 M.i6 M.t6 (ini6 M) hB M.n6 (pda_cons (pda_cons (pda_nil) (pd_var 2 (pv 2))) (pd_var 1 (pv 1)))))) (pds_nil)) (pds_cons (pds_if (pdt_cmp (op_eqD' hB.rg) (pd_var 0 (pv 0)) (pd_int)) (pds_one (pds_ret (pd_mkx hU Px.xb_VE M.x7 M.i7 M.t7 (ini7 M) hB M.n7 (pda_cons (pda_cons (pda_nil) (pd_var 2 (pv 2))) (pd_var 1 (pv 1)))))) (pds_nil)) (pds_cons (pds_if (pdt_cmp (op_eqD' hB.rg) (pd_var 0 (pv 0)) (pd_int)) (pds_one (pds_ret (pd_mkx hU Px.xb_VE M.x8 M.i8 M.t8 (ini8 M) hB M.n8 (pda_cons (pda_cons (pda_nil) (pd_var 2 (pv 2))) (pd_var 1 (pv 1)))))) (pds_nil)) (pds_cons (pds_if (pdt_cmp (op_eqD' hB.rg) (pd_var 0 (pv 0)) (pd_int)) (pds_one (pds_ret (pd_mkx hU Px.xb_VE M.x9 M.i9 M.t9 (ini9 M) hB M.n9 (pda_cons (pda_nil) (pd_var 1 (pv 1)))))) (pds_nil)) (pds_cons (pds_if (pdt_cmp (op_eqD' hB.rg) (pd_var 0 (pv 0)) (pd_int)) (pds_one (pds_ret (pd_mkx hU Px.xb_VE M.x10 M.i10 M.t10 (ini10 M) hB M.n10 (pda_cons (pda_cons (pda_nil) (pd_var 2 (pv 2))) (pd_var 1 (pv 1)))))) (pds_nil)) (pds_cons (pds_if (pdt_cmp (op_eqD' hB.rg) (pd_var 0 (pv 0)) (pd_int)) (pds_one (pds_ret (pd_mkx hU Px.xb_VE M.x11 M.i11 M.t11 (ini11 M) hB M.n11 (pda_cons (pda_nil) (pd_var 1 (pv 1)))))) (pds_nil)) (pds_cons (pds_if (pdt_cmp (op_eqD' hB.rg) (pd_var 0 (pv 0)) (pd_int)) (pds_one (pds_ret (pd_mkx hU Px.xb_VE M.x12 M.i12 M.t12 (ini12 M) hB M.n12 (pda_cons (pda_cons (pda_nil) (pd_var 2 (pv 2))) (pd_var 1 (pv 1)))))) (pds_nil)) (pds_one (pds_ret (pd_call (hR 7 (by decide)) M.d7.mg M.d7.kp M.d7.b hB (pda_cons (pda_cons (pda_nil) (pd_var 1 (pv 1))) (pd_var 0 (pv 0)))))))))))))))))
set_option maxHeartbeats 4000000 in
theorem ok7 (M : Mod K mg fa fd xa xf xd) (hR : ∀ j, j < 12 → FnG P w K mg base k (fa j) (fd j) (psOf j) (spD ⟨K, mg⟩ (psOf j).length (R j))) (hU : up R = true → 2 ≤ k)  : FnG P w K mg base (k + 1) (fa 7) (fd 7) (psOf 7) (spD ⟨K, mg⟩ (psOf 7).length (bodyOf 7 R)) :=
  fnD M.d7.F sc7 fun cdv A outer s H0 E hB hP => pds_cons (pds_if (pdt_cmp (op_eqD' hB.rg) (pd_var 0 (pv 0)) (pd_int)) (pds_one (pds_ret (pd_mkx hU Px.xb_VE M.x13 M.i13 M.t13 (ini13 M) hB M.n13 (pda_cons (pda_nil) (pd_var 1 (pv 1)))))) (pds_nil)) (pds_cons (pds_if (pdt_cmp (op_eqD' hB.rg) (pd_var 0 (pv 0)) (pd_int)) (pds_one (pds_ret (pd_mkx hU Px.xb_VE M.x14 M.i14 M.t14 (ini14 M) hB M.n14 (pda_cons (pda_nil) (pd_var 1 (pv 1)))))) (pds_nil)) (pds_cons (pds_if (pdt_cmp (op_eqD' hB.rg) (pd_var 0 (pv 0)) (pd_int)) (pds_one (pds_ret (pd_mkx hU Px.xb_VE M.x15 M.i15 M.t15 (ini15 M) hB M.n15 (pda_cons (pda_nil) (pd_var 1 (pv 1)))))) (pds_nil)) (pds_cons (pds_if (pdt_cmp (op_eqD' hB.rg) (pd_var 0 (pv 0)) (pd_int)) (pds_one (pds_ret (pd_mkx hU Px.xb_VE M.x17 M.i17 M.t17 (ini17 M) hB M.n17 (pda_cons (pda_nil) (pd_var 1 (pv 1)))))) (pds_nil)) (pds_cons (pds_if (pdt_cmp (op_eqD' hB.rg) (pd_var 0 (pv 0)) (pd_int)) (pds_one (pds_ret (pd_mkx hU Px.xb_VE M.x18 M.i18 M.t18 (ini18 M) hB M.n18 (pda_cons (pda_nil) (pd_var 1 (pv 1)))))) (pds_nil)) (pds_cons (pds_if (pdt_cmp (op_eqD' hB.rg) (pd_var 0 (pv 0)) (pd_int)) (pds_one (pds_ret (pd_mkx hU Px.xb_KE M.x20 M.i20 M.t20 (ini20 M) hB M.n20 (pda_cons (pda_nil) (pd_var 1 (pv 1)))))) (pds_nil)) (pds_cons (pds_if (pdt_cmp (op_eqD' hB.rg) (pd_var 0 (pv 0)) (pd_int)) (pds_one (pds_ret (pd_mkx hU Px.xb_KE M.x21 M.i21 M.t21 (ini21 M) hB M.n21 (pda_cons (pda_nil) (pd_var 1 (pv 1)))))) (pds_nil)) (pds_cons (pds_if (pdt_cmp (op_eqD' hB.rg) (pd_var 0 (pv 0)) (pd_int)) (pds_one (pds_ret (pd_mkx hU Px.xb_KE M.x22 M.i22 M.t22 (ini22 M) hB M.n22 (pda_cons (pda_nil) (pd_var 1 (pv 1)))))) (pds_nil)) (pds_cons (pds_if (pdt_cmp (op_eqD' hB.rg) (pd_var 0 (pv 0)) (pd_int)) (pds_one (pds_ret (pd_mkx hU Px.xb_KE M.x23 M.i23 M.t23 (ini23 M) hB M.n23 (pda_cons (pda_nil) (pd_var 1 (pv 1)))))) (pds_nil)) (pds_cons (pds_if (pdt_cmp (op_eqD' hB.rg) (pd_var 0 (pv 0)) (pd_int)) (pds_one (pds_ret (pd_mkx hU Px.xb_KE M.x24 M.i24 M.t24 (ini24 M) hB M.n24 (pda_cons (pda_nil) (pd_var 1 (pv 1)))))) (pds_nil)) (pds_one (pds_ret (pd_mkx hU Px.xb_KE M.x25 M.i25 M.t25 (ini25 M) hB M.n25 (pda_cons (pda_nil) (pd_var 1 (pv 1)))))))))))))))
set_option maxHeartbeats 4000000 in
theorem ok8 (M : Mod K mg fa fd xa xf xd) (hR : ∀ j, j < 12 → FnG P w K mg base k (fa j) (fd j) (psOf j) (spD ⟨K, mg⟩ (psOf j).length (R j))) (hU : up R = true → 2 ≤ k)  : FnG P w K mg base (k + 1) (fa 8) (fd 8) (psOf 8) (spD ⟨K, mg⟩ (psOf 8).length (bodyOf 8 R)) :=
  fnD M.d8.F sc8 fun cdv A outer s H0 E hB hP => pds_cons (pds_if (pdt_cmp op_ltD (pd_var 0 (pv 0)) (pd_int)) (pds_one (pds_ret (pd_lst (pda_nil)))) (pds_nil)) (pds_cons (pds_if (pdt_cmp (op_inD hB.rg) (pd_var 0 (pv 0)) (pd_tup (pda_cons (pda_cons (pda_nil) (pd_int)) (pd_int)))) (pds_one (pds_ret (pd_if (pdt_cmp (op_eqD' hB.rg) (pd_var 0 (pv 0)) (pd_int)) (pd_lst (pda_cons (pda_cons (pda_nil) (pd_xfld M.f_word (pd_var 1 (pv 1)))) (pd_xfld M.f_spot (pd_var 1 (pv 1))))) (pd_lst (pda_cons (pda_nil) (pd_xfld M.f_spot (pd_var 1 (pv 1)))))))) (pds_nil)) (pds_cons (pds_if (pdt_cmp (op_eqD' hB.rg) (pd_var 0 (pv 0)) (pd_int)) (pds_one (pds_ret (pd_lst (pda_cons (pda_cons (pda_nil) (pd_xfld M.f_k (pd_var 1 (pv 1)))) (pd_xfld M.f_shape (pd_var 1 (pv 1))))))) (pds_nil)) (pds_cons (pds_if (pdt_cmp (op_eqD' hB.rg) (pd_var 0 (pv 0)) (pd_int)) (pds_one (pds_ret (pd_lst (pda_cons (pda_cons (pda_nil) (pd_xfld M.f_word (pd_var 1 (pv 1)))) (pd_xfld M.f_row (pd_var 1 (pv 1))))))) (pds_nil)) (pds_cons (pds_if (pdt_cmp (op_inD hB.rg) (pd_var 0 (pv 0)) (pd_tup (pda_cons (pda_cons (pda_nil) (pd_int)) (pd_int)))) (pds_one (pds_ret (pd_lst (pda_cons (pda_cons (pda_nil) (pd_xfld M.f_row (pd_var 1 (pv 1)))) (pd_xfld M.f_name (pd_var 1 (pv 1))))))) (pds_nil)) (pds_cons (pds_if (pdt_cmp (op_eqD' hB.rg) (pd_var 0 (pv 0)) (pd_int)) (pds_one (pds_ret (pd_lst (pda_cons (pda_nil) (pd_xfld M.f_names (pd_var 1 (pv 1))))))) (pds_nil)) (pds_cons (pds_if (pdt_cmp (op_eqD' hB.rg) (pd_var 0 (pv 0)) (pd_int)) (pds_one (pds_ret (pd_lst (pda_cons (pda_cons (pda_nil) (pd_xfld M.f_arguments (pd_var 1 (pv 1)))) (pd_xfld M.f_name (pd_var 1 (pv 1))))))) (pds_nil)) (pds_cons (pds_if (pdt_cmp (op_inD hB.rg) (pd_var 0 (pv 0)) (pd_tup (pda_cons (pda_cons (pda_cons (pda_cons (pda_cons (pda_nil) (pd_int)) (pd_int)) (pd_int)) (pd_int)) (pd_int)))) (pds_one (pds_ret (pd_lst (pda_cons (pda_nil) (pd_xfld M.f_name (pd_var 1 (pv 1))))))) (pds_nil)) (pds_cons (pds_if (pdt_cmp (op_eqD' hB.rg) (pd_var 0 (pv 0)) (pd_int)) (pds_one (pds_ret (pd_lst (pda_cons (pda_nil) (pd_xfld M.f_many (pd_var 1 (pv 1))))))) (pds_nil)) (pds_cons (pds_if (pdt_cmp (op_inD hB.rg) (pd_var 0 (pv 0)) (pd_tup (pda_cons (pda_cons (pda_nil) (pd_int)) (pd_int)))) (pds_one (pds_ret (pd_if (pdt_cmp (op_eqD' hB.rg) (pd_var 0 (pv 0)) (pd_int)) (pd_lst (pda_cons (pda_nil) (pd_xfld M.f_most (pd_var 1 (pv 1))))) (pd_lst (pda_cons (pda_nil) (pd_xfld M.f_size (pd_var 1 (pv 1)))))))) (pds_nil)) (pds_cons (pds_if (pdt_cmp (op_eqD' hB.rg) (pd_var 0 (pv 0)) (pd_int)) (pds_one (pds_ret (pd_lst (pda_cons (pda_nil) (pd_xfld M.f_lib (pd_var 1 (pv 1))))))) (pds_nil)) (pds_one (pds_ret (pd_if (pdt_cmp (op_eqD' hB.rg) (pd_var 0 (pv 0)) (pd_int)) (pd_lst (pda_cons (pda_nil) (pd_xfld M.f_hole (pd_var 1 (pv 1))))) (pd_lst (pda_cons (pda_nil) (pd_xfld M.f_n (pd_var 1 (pv 1))))))))))))))))))
set_option maxHeartbeats 4000000 in
theorem ok9 (M : Mod K mg fa fd xa xf xd) (hR : ∀ j, j < 12 → FnG P w K mg base k (fa j) (fd j) (psOf j) (spD ⟨K, mg⟩ (psOf j).length (R j))) (hU : up R = true → 2 ≤ k)  : FnG P w K mg base (k + 1) (fa 9) (fd 9) (psOf 9) (spD ⟨K, mg⟩ (psOf 9).length (bodyOf 9 R)) :=
  fnD M.d9.F sc9 fun cdv A outer s H0 E hB hP => pds_cons (pds_par (i := 4) (j := 5) (pd_call (hR 4 (by decide)) M.d4.mg M.d4.kp M.d4.b hB (pda_cons (pda_nil) (pd_var 0 (pv 0)))) (pd_ix (pd_lst (pda_cons (pda_cons (pda_cons (pda_cons (pda_nil) (pd_op op_powD (pd_int) (pd_int))) (pd_call (hR 1 (by decide)) M.d1.mg M.d1.kp M.d1.b hB (pda_cons (pda_cons (pda_nil) (pd_int)) (pd_var 0 (pv 0))))) (pd_int)) (pd_int))) (pd_call (hR 1 (by decide)) M.d1.mg M.d1.kp M.d1.b hB (pda_cons (pda_cons (pda_nil) (pd_int)) (pd_var 0 (pv 0))))) hB.calm hB.nd) (pds_cons (pds_set (i := 2) (pd_ty call_tupD (pda_cons (pda_nil) (pd_lc (own := [("turn", 6)]) (pdi_rng1 (pd_call (hR 1 (by decide)) M.d1.mg M.d1.kp M.d1.b hB (pda_cons (pda_cons (pda_nil) (pd_int)) (pd_var 0 (pv 0)))) M.z_range) (fun _ _ _ _ _ => pdg_name (i := 6) hB.nd) (fun _ _ _ _ _ => pdts_nil) (fun _ _ _ _ _ => pd_call (hR 1 (by decide)) M.d1.mg M.d1.kp M.d1.b (hB.blk _ _ _ _ _ _) (pda_cons (pda_cons (pda_nil) (pd_int)) (pd_var 0 (pv 0)))) hB.calm hB.nd (blkc_of (N := ["deck", "k", "spot", "word", "name", "number", "turn"]) (sc := defScope s9) rfl rfl (by decide +kernel)))) M.z_tuple) hB.nd) (pds_cons (pds_set (i := 3) (pd_ix (pd_lst (pda_cons (pda_cons (pda_cons (pda_cons (pda_cons (pda_cons (pda_cons (pda_cons (pda_cons (pda_cons (pda_nil) (pd_str)) (pd_str)) (pd_str)) (pd_str)) (pd_str)) (pd_str)) (pd_str)) (pd_str)) (pd_str)) (pd_str))) (pd_call (hR 1 (by decide)) M.d1.mg M.d1.kp M.d1.b hB (pda_cons (pda_cons (pda_nil) (pd_int)) (pd_var 0 (pv 0))))) hB.nd) (pds_cons (pds_if (pdt_cmp (op_inD hB.rg) (pd_var 1 (pv 1)) (pd_tup (pda_cons (pda_cons (pda_nil) (pd_int)) (pd_int)))) (pds_one (pds_ret (pd_tup (pda_cons (pda_cons (pda_nil) (pd_var 3 (pv 3))) (pd_var 2 (pv 2)))))) (pds_nil)) (pds_cons (pds_if (pdt_cmp (op_eqD' hB.rg) (pd_var 1 (pv 1)) (pd_int)) (pds_one (pds_ret (pd_tup (pda_cons (pda_cons (pda_nil) (pd_ix (pd_lst (pda_cons (pda_cons (pda_cons (pda_cons (pda_cons (pda_cons (pda_nil) (pd_str)) (pd_str)) (pd_str)) (pd_str)) (pd_str)) (pd_str))) (pd_call (hR 1 (by decide)) M.d1.mg M.d1.kp M.d1.b hB (pda_cons (pda_cons (pda_nil) (pd_int)) (pd_var 0 (pv 0)))))) (pd_call (hR 1 (by decide)) M.d1.mg M.d1.kp M.d1.b hB (pda_cons (pda_cons (pda_nil) (pd_int)) (pd_var 0 (pv 0)))))))) (pds_nil)) (pds_cons (pds_if (pdt_cmp (op_eqD' hB.rg) (pd_var 1 (pv 1)) (pd_int)) (pds_one (pds_ret (pd_tup (pda_cons (pda_cons (pda_nil) (pd_non)) (pd_ty call_tupD (pda_cons (pda_nil) (pd_lc (own := [("turn", 6)]) (pdi_rng1 (pd_op op_addD (pd_int) (pd_call (hR 1 (by decide)) M.d1.mg M.d1.kp M.d1.b hB (pda_cons (pda_cons (pda_nil) (pd_int)) (pd_var 0 (pv 0))))) M.z_range) (fun _ _ _ _ _ => pdg_name (i := 6) hB.nd) (fun _ _ _ _ _ => pdts_nil) (fun _ _ _ _ _ => pd_call (hR 2 (by decide)) M.d2.mg M.d2.kp M.d2.b (hB.blk _ _ _ _ _ _) (pda_cons (pda_nil) (pd_var 0 (pv 0)))) hB.calm hB.nd (blkc_of (N := ["deck", "k", "spot", "word", "name", "number", "turn"]) (sc := defScope s9) rfl rfl (by decide +kernel)))) M.z_tuple))))) (pds_nil)) (pds_cons (pds_if (pdt_cmp (op_eqD' hB.rg) (pd_var 1 (pv 1)) (pd_int)) (pds_one (pds_ret (pd_tup (pda_cons (pda_cons (pda_nil) (pd_tup (pda_cons (pda_cons (pda_nil) (pd_tup (pda_cons (pda_cons (pda_nil) (pd_call (hR 1 (by decide)) M.d1.mg M.d1.kp M.d1.b hB (pda_cons (pda_cons (pda_nil) (pd_int)) (pd_var 0 (pv 0))))) (pd_str)))) (pd_tup (pda_cons (pda_cons (pda_cons (pda_cons (pda_nil) (pd_tup (pda_nil))) (pd_str)) (pd_str)) (pd_str)))))) (pd_var 4 (pv 4)))))) (pds_nil)) (pds_one (pds_ret (pd_if (pdt_cmp (op_inD hB.rg) (pd_var 1 (pv 1)) (pd_tup (pda_cons (pda_cons (pda_cons (pda_cons (pda_cons (pda_nil) (pd_int)) (pd_int)) (pd_int)) (pd_int)) (pd_int)))) (pd_tup (pda_cons (pda_cons (pda_nil) (pd_non)) (pd_var 5 (pv 5)))) (pd_tup (pda_cons (pda_cons (pda_nil) (pd_call (hR 1 (by decide)) M.d1.mg M.d1.kp M.d1.b hB (pda_cons (pda_cons (pda_nil) (pd_int)) (pd_var 0 (pv 0))))) (pd_var 4 (pv 4)))))))))))))
set_option maxHeartbeats 4000000 in
theorem ok10 (M : Mod K mg fa fd xa xf xd) (hR : ∀ j, j < 12 → FnG P w K mg base k (fa j) (fd j) (psOf j) (spD ⟨K, mg⟩ (psOf j).length (R j))) (hU : up R = true → 2 ≤ k)  : FnG P w K mg base (k + 1) (fa 10) (fd 10) (psOf 10) (spD ⟨K, mg⟩ (psOf 10).length (bodyOf 10 R)) :=
  fnD M.d10.F sc10 fun cdv A outer s H0 E hB hP => pds_cons (pds_setLc (i := 1) (own := [("at", 2)]) (pdi_rng1 (pd_int) M.z_range) (fun _ _ _ _ _ => pdg_name (i := 2) hB.nd) (fun _ _ _ _ _ => pdts_nil) (fun _ _ _ _ _ => pd_cmp (op_eqD' hB.rg) (pd_var 2 (pv 2)) (pd_var 0 (pv 0))) hB.calm hB.nd (blkc_of (N := ["k", "own", "at"]) (sc := defScope s10) rfl rfl (by decide +kernel)) (sw_true rfl rfl rfl (by decide +kernel))) (pds_one (pds_ret (pd_lst (pda_cons (pda_cons (pda_nil) (pd_lst (pda_cons (pda_cons (pda_cons (pda_cons (pda_cons (pda_nil) (pd_cmp op_gtD (pd_var 0 (pv 0)) (pd_int))) (pd_cmp op_gtD (pd_var 0 (pv 0)) (pd_int))) (pd_cmp op_ltD (pd_var 0 (pv 0)) (pd_int))) (pd_cmp op_ltD (pd_var 0 (pv 0)) (pd_int))) (pd_cmp (op_inD hB.rg) (pd_var 0 (pv 0)) (pd_tup (pda_cons (pda_cons (pda_nil) (pd_int)) (pd_int))))))) (pd_var 1 (pv 1))))))
set_option maxHeartbeats 4000000 in
theorem ok11 (M : Mod K mg fa fd xa xf xd) (hR : ∀ j, j < 12 → FnG P w K mg base k (fa j) (fd j) (psOf j) (spD ⟨K, mg⟩ (psOf j).length (R j))) (hU : up R = true → 2 ≤ k)  : FnG P w K mg base (k + 1) (fa 11) (fd 11) (psOf 11) (spD ⟨K, mg⟩ (psOf 11).length (bodyOf 11 R)) :=
  fnD M.d11.F sc11 fun cdv A outer s H0 E hB hP => pds_cons (pds_set (i := 1) (pd_call (hR 0 (by decide)) M.d0.mg M.d0.kp M.d0.b hB (pda_cons (pda_nil) (pd_var 0 (pv 0)))) hB.nd) (pds_cons (pds_set (i := 2) (pd_listRgC (pd_int) hB.calm M.z_list M.z_range) hB.nd) (pds_cons (pds_set (i := 3) (pd_lstC (pda_nil)) hB.nd) (pds_cons (pds_for (vs := [4]) (pdi_rng1 (pd_int) M.z_range) (pdg_name (i := 4) hB.nd) (pds_cons (pds_set (i := 5) (pd_mt mt_popAtD PySem.F.plainAttrs_list PySem.F.slot_list_pop PySem.F.type_list_pop (pd_var 2 (pv 2)) (pda_cons (pda_nil) (pd_call (hR 1 (by decide)) M.d1.mg M.d1.kp M.d1.b hB (pda_cons (pda_cons (pda_nil) (pd_blt call_lenD (pda_cons (pda_nil) (pd_var 2 (pv 2))) M.z_len)) (pd_var 1 (pv 1)))))) hB.nd) (pds_one (pds_for (vs := [6]) (pdi_rng1 (pd_int) M.z_range) (pdg_name (i := 6) hB.nd) (pds_cons (pds_asg (vs := [7, 8]) (pd_call (hR 9 (by decide)) M.d9.mg M.d9.kp M.d9.b hB (pda_cons (pda_cons (pda_nil) (pd_var 5 (pv 5))) (pd_var 1 (pv 1)))) (pdg_tup (pdgs_cons (pdgs_cons (pdgs_nil) (pdg_name (i := 8) hB.nd)) (pdg_name (i := 7) hB.nd)) hB.calm)) (pds_one (pds_expr (pd_mt mt_appendD PySem.F.plainAttrs_list PySem.F.slot_list_append PySem.F.type_list_append (pd_var 3 (pv 3)) (pda_cons (pda_nil) (pd_tup (pda_cons (pda_cons (pda_cons (pda_cons (pda_nil) (pd_call (hR 6 (by decide)) M.d6.mg M.d6.kp M.d6.b hB (pda_cons (pda_cons (pda_cons (pda_nil) (pd_var 8 (pv 8))) (pd_var 7 (pv 7))) (pd_var 5 (pv 5))))) (pd_var 8 (pv 8))) (pd_var 7 (pv 7))) (pd_var 5 (pv 5))))))))) hP hB.calm))) hP hB.calm) (pds_cons (pds_frz (i := 3) (pds_for (vs := [5, 7, 8, 9]) (pdi_any (pd_var 3 (pv 3))) (pdg_tup (pdgs_cons (pdgs_cons (pdgs_cons (pdgs_cons (pdgs_nil) (pdg_name (i := 9) hB.nd)) (pdg_name (i := 8) hB.nd)) (pdg_name (i := 7) hB.nd)) (pdg_name (i := 5) hB.nd)) hB.calm) (pds_cons (pds_set (i := 10) (pd_ix (pd_lst (pda_cons (pda_cons (pda_cons (pda_nil) (pd_lst (pda_cons (pda_cons (pda_nil) (pd_var 8 (pv 8))) (pd_var 7 (pv 7))))) (pd_lst (pda_cons (pda_nil) (pd_var 7 (pv 7))))) (pd_lst (pda_nil)))) (pd_if (pdt_cmp op_ltD (pd_var 5 (pv 5)) (pd_int)) (pd_int) (pd_op op_addD (pd_int) (pd_ty call_intD (pda_cons (pda_nil) (pd_cmp (op_inD hB.rg) (pd_var 5 (pv 5)) (pd_tup (pda_cons (pda_cons (pda_cons (pda_cons (pda_cons (pda_cons (pda_nil) (pd_int)) (pd_int)) (pd_int)) (pd_int)) (pd_int)) (pd_int))))) M.z_int)))) hB.nd) (pds_one (pds_if ((pdw_or (pdt_cmp (op_neD' hB.rg) (pd_blt (call_reprD hB.rg) (pda_cons (pda_nil) (pd_call (hR 8 (by decide)) M.d8.mg M.d8.kp M.d8.b hB (pda_cons (pda_cons (pda_nil) (pd_var 9 (pv 9))) (pd_var 5 (pv 5))))) M.z_repr) (pd_blt (call_reprD hB.rg) (pda_cons (pda_nil) (pd_var 10 (pv 10))) M.z_repr)) (pdw_or1 (pdt_cmp (op_neD' hB.rg) (pd_blt (call_reprD hB.rg) (pda_cons (pda_nil) (pd_call (hR 5 (by decide)) M.d5.mg M.d5.kp M.d5.b hB (pda_cons (pda_nil) (pd_var 9 (pv 9))))) M.z_repr) (pd_blt (call_reprD hB.rg) (pda_cons (pda_nil) (pd_call (hR 10 (by decide)) M.d10.mg M.d10.kp M.d10.b hB (pda_cons (pda_nil) (pd_var 5 (pv 5))))) M.z_repr)))).t) (pds_one (pds_ret (pd_bl))) (pds_nil)))) hP hB.calm)) (pds_one (pds_ret (pd_bl)))))))
theorem up_run : ∀ k, up (run k) = true → 2 ≤ k
  | 0, h => by cases (show false = true from h)
  | 1, h => by cases (show false = true from h)
  | k + 2, _ => by omega
theorem all_ok (M : Mod K mg fa fd xa xf xd) : ∀ k j, j < 12 → FnG P w K mg base k (fa j) (fd j) (psOf j) (spD ⟨K, mg⟩ (psOf j).length (run k j))
  | 0, _, _ => FnG.zero
  | k + 1, j, h => by
    have hR := all_ok M k
    match j, h with
    | 0, _ => exact ok0 M hR (up_run k)
    | 1, _ => exact ok1 M hR (up_run k)
    | 2, _ => exact ok2 M hR (up_run k)
    | 3, _ => exact ok3 M hR (up_run k)
    | 4, _ => exact ok4 M hR (up_run k)
    | 5, _ => exact ok5 M hR (up_run k)
    | 6, _ => exact ok6 M hR (up_run k)
    | 7, _ => exact ok7 M hR (up_run k)
    | 8, _ => exact ok8 M hR (up_run k)
    | 9, _ => exact ok9 M hR (up_run k)
    | 10, _ => exact ok10 M hR (up_run k)
    | 11, _ => exact ok11 M hR (up_run k)
    | j + 12, h => exact absurd h (by omega)
end
def codes : Codes where
  ho := fun _ _ _ _ => .ext fun _ => True
  ext := fun _ _ _ _ => ⟨_, rfl⟩
  qual := fun _ => ""
  fr := fun _ => []
  tabs := []
end
end Lw

namespace Lw
open PySem PySem.Spec L2 Pd
local macro_rules | `(tactic| walk_at "d") => `(tactic| first
  | with_reducible refine sk_seq ?_ | with_reducible refine sk_set ?_ | with_reducible refine sk_ite ?_ | with_reducible refine sk_ret ?_ | with_reducible refine sk_nil ?_ | with_reducible refine sk_expr ?_
  | with_reducible refine sk_par ?_ | with_reducible refine sk_asg ?_ | with_reducible refine sk_setIx ?_ | with_reducible refine sk_star ?_ | with_reducible refine sk_for ?_ | with_reducible refine sk_retN ?_
  | with_reducible refine sk_break ?_ | with_reducible refine sk_cont ?_
  | ((with_reducible refine ok_var (d := ?d) ?h ?_); (case h => exact rfl)) | with_reducible refine ok_c ?_ | with_reducible refine ok_nil ?_ | with_reducible refine ok_cons ?_ | with_reducible refine ok_op ?_
  | with_reducible refine ok_opC ?_ | with_reducible refine ok_un ?_ | with_reducible refine ok_unC ?_ | with_reducible refine ok_not ?_ | with_reducible refine ok_and ?_ | with_reducible refine ok_or ?_
  | with_reducible refine ok_chain ?_ | with_reducible refine ok_ite ?_ | with_reducible refine ok_blt ?_ | with_reducible refine ok_call ?_ | with_reducible refine ok_oNone ?_ | with_reducible refine ok_sl ?_
  | with_reducible refine ok_dnew ?_ | with_reducible refine ok_dnewC ?_ | with_reducible refine ok_B ?_ | with_reducible refine ok_tAnd ?_ | with_reducible refine ok_tOr ?_ | with_reducible refine ok_tNot ?_
  | with_reducible refine ok_tYes ?_ | with_reducible refine ok_iAny ?_ | with_reducible refine ok_lc ?_ | with_reducible refine ok_lcC ?_
  | with_reducible refine blk_bl ?_
  | with_reducible refine Cnd.t ?_ | with_reducible refine Cnd.f ?_ | with_reducible refine Cnd.nt ?_ | with_reducible refine Cnd.nf ?_
  | with_reducible refine lk_add_int ?_ | with_reducible refine lk_sub_int ?_ | with_reducible refine lk_lt_int ?_ | with_reducible refine lk_le_int ?_ | with_reducible refine lk_gt_int ?_ | with_reducible refine lk_ge_int ?_
  | (with_reducible refine ok_tup ?_) | (with_reducible refine ok_lst ?_) | (with_reducible refine ok_lstC ?_)
  | (with_reducible refine ok_mt ?_) | (with_reducible refine ok_repl ?_)
  | (with_reducible refine ok_neg ?_) | (with_reducible refine ok_oSome ?_)
  | (with_reducible refine ok_iRng1 ?_) | (with_reducible refine ok_iRng2 ?_)
  | (with_reducible refine ⟨_, rfl, ?_⟩)
  | with_reducible refine ok_enum ?_ | with_reducible refine ok_fnv ?_ | with_reducible refine sk_put ?_ | with_reducible refine ok_callK ?_
  | ((with_reducible refine And.intro ?h ?_); (case h => first | exact Eq.refl _ | decide)))
local macro_rules | `(tactic| walk_at "e") => `(tactic| first
  | walk_at "d"
  | with_reducible refine lk_isi_str (by assumption) ?_ | with_reducible refine lk_isi_int (by assumption) ?_ | with_reducible refine lk_isi_bool (by assumption) ?_ | with_reducible refine lk_isi_tuple (by assumption) ?_
  | with_reducible refine lk_eq_str ?_ | with_reducible refine lk_ne_str ?_ | with_reducible refine lk_eq_int ?_ | with_reducible refine lk_ne_int ?_ | with_reducible refine lk_eq_nil ?_ | with_reducible refine lk_ne_nil ?_
  | with_reducible refine lk_eq_tnil ?_ | with_reducible refine lk_ne_tnil ?_ | with_reducible refine lk_in_strs rfl ?_ | with_reducible refine lk_nin_strs rfl ?_
  | ((with_reducible refine lk_ixt (a := ?a) ?h ?_); (case h => exact rfl)) | ((with_reducible refine lk_ixl (a := ?a) ?h ?_); (case h => exact rfl))
  | with_reducible refine glk_len_tup ?_ | with_reducible refine glk_len_lst ?_ | with_reducible refine glk_len_str (le_line (by omega)) ?_
  | with_reducible refine ⟨le_line (by (simp only [List.length_cons, List.length_nil]; omega)), ?_⟩)
local macro_rules | `(tactic| walk_at "f") => `(tactic| first
  | walk_at "e"
  | ((with_reducible refine Cnd.yes ?h ?_); (case h => rfl)) | ((with_reducible refine Cnd.no ?h ?_); (case h => rfl))
  | ((with_reducible refine lk_some (a := ?a) ?h ?_); (case h => exact rfl)))

theorem r0 {k : Nat} : run (k + 1) 0 = fnM 3 bDeck := rfl
theorem r1 {k : Nat} : run (k + 1) 1 = fnM 4 bDraw := rfl
theorem r2 {k : Nat} : run (k + 1) 2 = fnM 6 (bName (run k 1)) := rfl
theorem r3 {k : Nat} : run (k + 1) 3 = fnM 2 (bFar (run k 1) (run k 2)) := rfl
theorem r4 {k : Nat} : run (k + 1) 4 = fnM 1 (bCalled (run k 1) (run k 3) (run k 2)) := rfl
theorem hdr (k : Nat) : DrawF (run (k + 1) 1) := by rw [r1]; exact drawF
theorem hnm (k : Nat) : NameF (run (k + 2) 2) := by rw [r2]; exact nameF (hdr k)
theorem hfr (k : Nat) : FarF (run (k + 3) 3) := by rw [r3]; exact farF (hdr (k + 1)) (hnm k)
theorem hca (k : Nat) : CalledF (run (k + 4) 4) := by rw [r4]; exact calledF (hdr (k + 2)) (hfr k) (hnm (k + 1))
/-- the refusal of a number -/
def excOf : Nat → D → D → D
  | 0, _, _ => .exc "NoText" [] []
  | 1, _, _ => .exc "NoItem" [] []
  | 2, _, _ => .exc "NoTerm" [] []
  | 3, a, _ => .exc "Taken" ["name"] [a]
  | 4, a, b => .exc "Unjudged" ["spot", "word"] [a, b]
  | 5, a, b => .exc "Holds" ["shape", "k"] [a, b]
  | 6, a, b => .exc "NoRow" ["row", "word"] [a, b]
  | 7, a, b => .exc "NoEnd" ["name", "row"] [a, b]
  | 8, a, _ => .exc "Ring" ["names"] [a]
  | 9, a, b => .exc "Lacks" ["name", "arguments"] [a, b]
  | 10, a, _ => .exc "Unclear" ["name"] [a]
  | 11, a, b => .exc "Idle" ["name", "row"] [a, b]
  | 12, a, _ => .exc "Broken" ["name"] [a]
  | 13, a, _ => .exc "Holed" ["name"] [a]
  | 14, a, _ => .exc "NoBack" ["many"] [a]
  | 15, a, _ => .exc "TooLong" ["most"] [a]
  | 16, a, _ => .exc "TooGreat" ["size"] [a]
  | 17, a, _ => .exc "NoName" ["name"] [a]
  | 18, a, _ => .exc "NoSpot" ["spot"] [a]
  | 19, a, _ => .exc "NoLibrary" ["lib"] [a]
  | 20, a, _ => .exc "NoHole" ["hole"] [a]
  | 21, a, _ => .exc "NoPicture" ["n"] [a]
  | _, a, _ => .exc "NoWorth" ["n"] [a]
def two (k : Nat) : Bool := k == 4 || (k == 5 || (k == 6 || (k == 7 || (k == 9 || k == 11))))
def dueOf (k : Nat) (a b : D) : List D := if k < 3 then [] else if two k = true then [a, b] else [a]
def marksOf (k : Nat) : D := .lst [.lst ((List.range 23).map fun j => .bl (j == k)), .lst [.bl (k == 15 || k == 16), .bl (decide (k < 17)), .bl (decide (k < 17)), .bl (decide (16 < k)), .bl (decide (16 < k))]]
set_option maxHeartbeats 4000000 in
theorem made_ok : ∀ {k : Nat}, k < 23 → ∀ {j : Nat} {a b : D} {st : Sto}, run (j + 5) 6 [.int k, a, b] st = .ok (excOf k a b) st := by
  intro k hk j a b st
  match k, hk with
  | 0, _ => kernel_rfl
  | 1, _ => kernel_rfl
  | 2, _ => kernel_rfl
  | 3, _ => kernel_rfl
  | 4, _ => kernel_rfl
  | 5, _ => kernel_rfl
  | 6, _ => kernel_rfl
  | 7, _ => kernel_rfl
  | 8, _ => kernel_rfl
  | 9, _ => kernel_rfl
  | 10, _ => kernel_rfl
  | 11, _ => kernel_rfl
  | 12, _ => kernel_rfl
  | 13, _ => kernel_rfl
  | 14, _ => kernel_rfl
  | 15, _ => kernel_rfl
  | 16, _ => kernel_rfl
  | 17, _ => kernel_rfl
  | 18, _ => kernel_rfl
  | 19, _ => kernel_rfl
  | 20, _ => kernel_rfl
  | 21, _ => kernel_rfl
  | 22, _ => kernel_rfl
  | k + 23, h => omega
set_option maxHeartbeats 4000000 in
theorem fields_ok : ∀ {k : Nat}, k < 23 → ∀ {j : Nat} {a b : D} {st : Sto}, run (j + 1) 8 [.int k, excOf k a b] st = .ok (.lst (dueOf k a b)) st := by
  intro k hk j a b st
  match k, hk with
  | 0, _ => kernel_rfl
  | 1, _ => kernel_rfl
  | 2, _ => kernel_rfl
  | 3, _ => kernel_rfl
  | 4, _ => kernel_rfl
  | 5, _ => kernel_rfl
  | 6, _ => kernel_rfl
  | 7, _ => kernel_rfl
  | 8, _ => kernel_rfl
  | 9, _ => kernel_rfl
  | 10, _ => kernel_rfl
  | 11, _ => kernel_rfl
  | 12, _ => kernel_rfl
  | 13, _ => kernel_rfl
  | 14, _ => kernel_rfl
  | 15, _ => kernel_rfl
  | 16, _ => kernel_rfl
  | 17, _ => kernel_rfl
  | 18, _ => kernel_rfl
  | 19, _ => kernel_rfl
  | 20, _ => kernel_rfl
  | 21, _ => kernel_rfl
  | 22, _ => kernel_rfl
  | k + 23, h => omega
set_option maxHeartbeats 4000000 in
theorem marks_ok : ∀ {k : Nat}, k < 23 → ∀ {j : Nat} {a b : D} {st : Sto}, run (j + 1) 5 [excOf k a b] st = .ok (marksOf k) st := by
  intro k hk j a b st
  match k, hk with
  | 0, _ => kernel_rfl
  | 1, _ => kernel_rfl
  | 2, _ => kernel_rfl
  | 3, _ => kernel_rfl
  | 4, _ => kernel_rfl
  | 5, _ => kernel_rfl
  | 6, _ => kernel_rfl
  | 7, _ => kernel_rfl
  | 8, _ => kernel_rfl
  | 9, _ => kernel_rfl
  | 10, _ => kernel_rfl
  | 11, _ => kernel_rfl
  | 12, _ => kernel_rfl
  | 13, _ => kernel_rfl
  | 14, _ => kernel_rfl
  | 15, _ => kernel_rfl
  | 16, _ => kernel_rfl
  | 17, _ => kernel_rfl
  | 18, _ => kernel_rfl
  | 19, _ => kernel_rfl
  | 20, _ => kernel_rfl
  | 21, _ => kernel_rfl
  | 22, _ => kernel_rfl
  | k + 23, h => omega
set_option maxHeartbeats 4000000 in
theorem duem_ok : ∀ {k : Nat}, k < 23 → ∀ {j : Nat} {st : Sto}, run (j + 1) 10 [.int k] st = .ok (marksOf k) st := by
  intro k hk j st
  match k, hk with
  | 0, _ => kernel_rfl
  | 1, _ => kernel_rfl
  | 2, _ => kernel_rfl
  | 3, _ => kernel_rfl
  | 4, _ => kernel_rfl
  | 5, _ => kernel_rfl
  | 6, _ => kernel_rfl
  | 7, _ => kernel_rfl
  | 8, _ => kernel_rfl
  | 9, _ => kernel_rfl
  | 10, _ => kernel_rfl
  | 11, _ => kernel_rfl
  | 12, _ => kernel_rfl
  | 13, _ => kernel_rfl
  | 14, _ => kernel_rfl
  | 15, _ => kernel_rfl
  | 16, _ => kernel_rfl
  | 17, _ => kernel_rfl
  | 18, _ => kernel_rfl
  | 19, _ => kernel_rfl
  | 20, _ => kernel_rfl
  | 21, _ => kernel_rfl
  | 22, _ => kernel_rfl
  | k + 23, h => omega
end Lw

namespace Lw
open PySem PySem.Spec L2 Pd
local macro_rules | `(tactic| walk_at "d") => `(tactic| first
  | with_reducible refine sk_seq ?_ | with_reducible refine sk_set ?_ | with_reducible refine sk_ite ?_ | with_reducible refine sk_ret ?_ | with_reducible refine sk_nil ?_ | with_reducible refine sk_expr ?_
  | with_reducible refine sk_par ?_ | with_reducible refine sk_asg ?_ | with_reducible refine sk_setIx ?_ | with_reducible refine sk_star ?_ | with_reducible refine sk_for ?_ | with_reducible refine sk_retN ?_
  | with_reducible refine sk_break ?_ | with_reducible refine sk_cont ?_
  | ((with_reducible refine ok_var (d := ?d) ?h ?_); (case h => exact rfl)) | with_reducible refine ok_c ?_ | with_reducible refine ok_nil ?_ | with_reducible refine ok_cons ?_ | with_reducible refine ok_op ?_
  | with_reducible refine ok_opC ?_ | with_reducible refine ok_un ?_ | with_reducible refine ok_unC ?_ | with_reducible refine ok_not ?_ | with_reducible refine ok_and ?_ | with_reducible refine ok_or ?_
  | with_reducible refine ok_chain ?_ | with_reducible refine ok_ite ?_ | with_reducible refine ok_blt ?_ | with_reducible refine ok_call ?_ | with_reducible refine ok_oNone ?_ | with_reducible refine ok_sl ?_
  | with_reducible refine ok_dnew ?_ | with_reducible refine ok_dnewC ?_ | with_reducible refine ok_B ?_ | with_reducible refine ok_tAnd ?_ | with_reducible refine ok_tOr ?_ | with_reducible refine ok_tNot ?_
  | with_reducible refine ok_tYes ?_ | with_reducible refine ok_iAny ?_ | with_reducible refine ok_lc ?_ | with_reducible refine ok_lcC ?_
  | with_reducible refine blk_bl ?_
  | with_reducible refine Cnd.t ?_ | with_reducible refine Cnd.f ?_ | with_reducible refine Cnd.nt ?_ | with_reducible refine Cnd.nf ?_
  | with_reducible refine lk_add_int ?_ | with_reducible refine lk_sub_int ?_ | with_reducible refine lk_lt_int ?_ | with_reducible refine lk_le_int ?_ | with_reducible refine lk_gt_int ?_ | with_reducible refine lk_ge_int ?_
  | (with_reducible refine ok_tup ?_) | (with_reducible refine ok_lst ?_) | (with_reducible refine ok_lstC ?_)
  | (with_reducible refine ok_mt ?_) | (with_reducible refine ok_repl ?_)
  | (with_reducible refine ok_neg ?_) | (with_reducible refine ok_oSome ?_)
  | (with_reducible refine ok_iRng1 ?_) | (with_reducible refine ok_iRng2 ?_)
  | (with_reducible refine ⟨_, rfl, ?_⟩)
  | with_reducible refine ok_enum ?_ | with_reducible refine ok_fnv ?_ | with_reducible refine sk_put ?_ | with_reducible refine ok_callK ?_
  | ((with_reducible refine And.intro ?h ?_); (case h => first | exact Eq.refl _ | decide)))
local macro_rules | `(tactic| walk_at "e") => `(tactic| first
  | walk_at "d"
  | with_reducible refine lk_isi_str (by assumption) ?_ | with_reducible refine lk_isi_int (by assumption) ?_ | with_reducible refine lk_isi_bool (by assumption) ?_ | with_reducible refine lk_isi_tuple (by assumption) ?_
  | with_reducible refine lk_eq_str ?_ | with_reducible refine lk_ne_str ?_ | with_reducible refine lk_eq_int ?_ | with_reducible refine lk_ne_int ?_ | with_reducible refine lk_eq_nil ?_ | with_reducible refine lk_ne_nil ?_
  | with_reducible refine lk_eq_tnil ?_ | with_reducible refine lk_ne_tnil ?_ | with_reducible refine lk_in_strs rfl ?_ | with_reducible refine lk_nin_strs rfl ?_
  | ((with_reducible refine lk_ixt (a := ?a) ?h ?_); (case h => exact rfl)) | ((with_reducible refine lk_ixl (a := ?a) ?h ?_); (case h => exact rfl))
  | with_reducible refine glk_len_tup ?_ | with_reducible refine glk_len_lst ?_ | with_reducible refine glk_len_str (le_line (by omega)) ?_
  | with_reducible refine ⟨le_line (by (simp only [List.length_cons, List.length_nil]; omega)), ?_⟩)
local macro_rules | `(tactic| walk_at "f") => `(tactic| first
  | walk_at "e"
  | ((with_reducible refine Cnd.yes ?h ?_); (case h => rfl)) | ((with_reducible refine Cnd.no ?h ?_); (case h => rfl))
  | ((with_reducible refine lk_some (a := ?a) ?h ?_); (case h => exact rfl)))

abbrev B4 (d : D) : Prop := Bx 4000 (10 ^ 39) 5 d
theorem b_int {i : Int} (h0 : 0 ≤ i) (h1 : i ≤ 10 ^ 39) : B4 (.int i) := Bx.int (by omega) (by decide)
theorem b_non : B4 .non := ⟨rfl, by decide, by decide, by decide⟩
theorem b_lit {s : String} (h : ((Str.ofString s).cps.toList.all fun c => decide (c < 128)) = true) (hl : (Str.ofString s).length ≤ 10) : B4 (.str (Str.ofString s)) := (litB (M := 10 ^ 39) (N := 5) h hl).mono (by decide) (Nat.le_refl _) (by decide)
theorem b_str {x : Str} (h : asS x) (hl : x.length ≤ 60) : B4 (.str x) := Bx.str h (by omega)
theorem things_ok {st : Sto} {n m : Nat} {t : Int} (D0 : Dk st n m t) (ht : t ≤ 10 ^ 12) {q : Int} {k : Nat} {E : ErP} :
    Ok (run (k + 5) 9 [.cell n, .int q] st) (fun d st' => ∃ a b, d = .tup [a, b] ∧ B4 a ∧ B4 b ∧ Dk st' n m (t + 100) ∧ Fr n m st st') E := by
  refine ok_fn (en := [some (.cell n), some (.int q), none, none, none, none, none]) rfl ?_
  unfold b9
  repeat walk_at "e"
  refine ((hca k).h D0 (by omega)).to ?_
  rintro _ st1 ⟨x, rfl, _, hx1, hx2, D1, F1⟩
  repeat walk_at "e"
  refine ((hdr (k + 3)).h D1 (by omega) (by decide) (by decide)).to ?_
  rintro _ st2 ⟨i, rfl, i0, i1, D2, F2⟩
  repeat walk_at "e"
  refine lk_pow (by decide) ?_
  repeat walk_at "e"
  refine ((hdr (k + 3)).h D2 (by omega) (by decide) (by decide)).to ?_
  rintro _ st3 ⟨j, rfl, j0, j1, D3, F3⟩
  repeat walk_at "e"
  refine lk_ix_lst j0 (by show j < 4; exact j1) fun d hd _ => ?_
  obtain ⟨w, rfl, w0, w1⟩ : ∃ w : Int, d = .int w ∧ 0 ≤ w ∧ w ≤ 10 ^ 39 := by
    have : d = .int 0 ∨ d = .int 1 ∨ d = .int i ∨ d = .int (10 ^ (39 : Int).toNat) := by simpa using hd
    rcases this with rfl | rfl | rfl | rfl
    · exact ⟨_, rfl, by decide, by decide⟩
    · exact ⟨_, rfl, by decide, by decide⟩
    · exact ⟨_, rfl, by omega, by omega⟩
    · exact ⟨_, rfl, by decide, by decide⟩
  repeat walk_at "e"
  refine ((hdr (k + 3)).h D3 (by omega) (by decide) (by decide)).to ?_
  rintro _ st4 ⟨v, rfl, v0, v1, D4, F4⟩
  repeat walk_at "e"
  refine ⟨by omega, by omega, ?_⟩
  refine ok_lc_gen (fun a s => Dk s n m (t + 40 + a) ∧ Fr n m st s) (fun d => ∃ i : Int, d = .int i ∧ 0 ≤ i ∧ i ≤ 5) (by rw [rng0, List.length_map, List.length_range]; exact le_line (by omega)) ⟨D4.more (by omega), ((F1.trans F2).trans F3).trans F4⟩ (fun a d s hd hJ => ?_) fun acc s hl hp hJ => ?_
  · have ha : a < v.toNat := by
      have := (List.getElem?_eq_some_iff.mp hd).1
      rw [rng0, List.length_map, List.length_range] at this; exact this
    refine ⟨_, rfl, ?_⟩
    repeat walk_at "e"
    refine ((hdr (k + 3)).h hJ.1 (by omega) (by decide) (by decide)).to ?_
    rintro _ s2 ⟨u, rfl, u0, u1, E1, G1⟩
    exact ⟨⟨u, rfl, u0, by omega⟩, E1.more (by omega), hJ.2.trans G1⟩
  have hl5 : acc.length ≤ 5 := by
    rw [hl, rng0, List.length_map, List.length_range]; omega
  rw [rng0, List.length_map, List.length_range] at hJ
  obtain ⟨D5, F5⟩ := hJ
  have bs : B4 (.tup acc) := by
    have each : ∀ d ∈ acc, Bx 500 (10 ^ 39) 0 d := fun d hd => by
      obtain ⟨i, rfl, h0, h1⟩ := hp d hd
      exact Bx.int (by omega) (by decide)
    refine Bx.tup (W := 500) (N := 0) each ?_ (by omega)
    have := wtL_le fun d hd => (each d hd).w
    have : acc.length * (500 + 4) ≤ 5 * (500 + 4) := Nat.mul_le_mul_right _ hl5
    omega
  repeat walk_at "e"
  refine glk_tup_lst ?_
  repeat walk_at "e"
  refine ((hdr (k + 3)).h D5 (by omega) (by decide) (by decide)).to ?_
  rintro _ st6 ⟨y, rfl, y0, y1, D6, F6⟩
  have F := F5.trans F6
  clear F1 F2 F3 F4 F5 F6 D1 D2 D3 D4 D5
  repeat walk_at "e"
  refine lk_ix_lst y0 (by show y < 10; exact y1) fun d hd _ => ?_
  have bw : B4 d := by
    simp only [List.mem_cons, List.not_mem_nil, or_false] at hd
    rcases hd with rfl | rfl | rfl | rfl | rfl | rfl | rfl | rfl | rfl | rfl <;> exact b_lit (by decide +kernel) (by decide +kernel)
  clear hd
  repeat walk_at "e"
  refine lk_some (a := .bl ([D.int 4, .int 18].any fun y => PyData.eqv (py y) (.int q))) rfl ?_
  repeat walk_at "e"
  refine Cnd.of (fun _ => ?_) (fun _ => ?_)
  · repeat walk_at "e"
    exact ⟨_, _, rfl, bs, bw, D6.more (by omega), F⟩
  repeat walk_at "e"
  refine Cnd.of (fun _ => ?_) (fun _ => ?_)
  · repeat walk_at "e"
    refine ((hdr (k + 3)).h D6 (by omega) (by decide) (by decide)).to ?_
    rintro _ st7 ⟨a, rfl, a0, a1, D7, F7⟩
    repeat walk_at "e"
    refine ((hdr (k + 3)).h D7 (by omega) (by decide) (by decide)).to ?_
    rintro _ st8 ⟨b, rfl, b0, b1, D8, F8⟩
    repeat walk_at "e"
    refine lk_ix_lst b0 (by show b < 6; exact b1) fun d2 hd2 _ => ?_
    have bw2 : B4 d2 := by
      simp only [List.mem_cons, List.not_mem_nil, or_false] at hd2
      rcases hd2 with rfl | rfl | rfl | rfl | rfl | rfl <;> exact b_lit (by decide +kernel) (by decide +kernel)
    repeat walk_at "e"
    exact ⟨_, _, rfl, b_int a0 (by omega), bw2, D8.more (by omega), (F.trans F7).trans F8⟩
  repeat walk_at "e"
  refine Cnd.of (fun _ => ?_) (fun _ => ?_)
  · repeat walk_at "e"
    refine ((hdr (k + 3)).h D6 (by omega) (by decide) (by decide)).to ?_
    rintro _ st7 ⟨a, rfl, a0, a1, D7, F7⟩
    repeat walk_at "e"
    refine ⟨by omega, by omega, ?_⟩
    refine ok_lc_gen (fun a s => Dk s n m (t + 60 + 4 * a) ∧ Fr n m st s) (fun d => ∃ x, d = .str x ∧ asS x ∧ x.length ≤ 8) (by rw [rng0, List.length_map, List.length_range]; exact le_line (by omega)) ⟨D7.more (by omega), F.trans F7⟩ (fun c d s hd hJ => ?_) fun acc2 s hl2 hp2 hJ => ?_
    · have ha : c < (1 + a).toNat := by
        have := (List.getElem?_eq_some_iff.mp hd).1
        rw [rng0, List.length_map, List.length_range] at this; exact this
      refine ⟨_, rfl, ?_⟩
      repeat walk_at "e"
      refine ((hnm (k + 2)).h hJ.1 (by omega)).to ?_
      rintro _ s2 ⟨u, rfl, hu, E1, G1⟩
      have nu := nm_facts hu
      exact ⟨⟨u, rfl, nu.2.2, nu.2.1⟩, E1.more (by omega), hJ.2.trans G1⟩
    have hl5 : acc2.length ≤ 3 := by
      rw [hl2, rng0, List.length_map, List.length_range]; omega
    rw [rng0, List.length_map, List.length_range] at hJ
    have bt : B4 (.tup acc2) := by
      have each : ∀ d ∈ acc2, Bx 500 (10 ^ 39) 0 d := fun d hd => by
        obtain ⟨i, rfl, h0, h1⟩ := hp2 d hd
        exact Bx.str h0 (by omega)
      refine Bx.tup (W := 500) (N := 0) each ?_ (by omega)
      have := wtL_le fun d hd => (each d hd).w
      have : acc2.length * (500 + 4) ≤ 3 * (500 + 4) := Nat.mul_le_mul_right _ hl5
      omega
    repeat walk_at "e"
    refine glk_tup_lst ?_
    repeat walk_at "e"
    exact ⟨_, _, rfl, bt, b_non, hJ.1.more (by omega), hJ.2⟩
  repeat walk_at "e"
  refine Cnd.of (fun _ => ?_) (fun _ => ?_)
  · repeat walk_at "e"
    refine ((hdr (k + 3)).h D6 (by omega) (by decide) (by decide)).to ?_
    rintro _ st7 ⟨a, rfl, a0, a1, D7, F7⟩
    repeat walk_at "e"
    refine ⟨_, _, rfl, b_str hx2 hx1, ?_, D7.more (by omega), F.trans F7⟩
    have b1 : Bx 1000 (10 ^ 39) 3 (.tup [.str "shape", .str "nat", .str "zero", .tup []]) := ⟨by decide +kernel, by decide +kernel, by decide +kernel, by decide +kernel⟩
    have b2 : Bx 1000 (10 ^ 39) 3 (.tup [.str "world", .int a]) := by
      refine Bx.tup (W := 500) (N := 0) (fun d hd => ?_) ?_ (by omega)
      · simp only [List.mem_cons, List.not_mem_nil, or_false] at hd
        rcases hd with rfl | rfl
        · exact (litB (M := 10 ^ 39) (N := 0) (by decide +kernel) (by decide +kernel)).mono (by decide) (Nat.le_refl _) (by decide)
        · exact Bx.int (by omega) (by decide)
      · have h5 : (Str.ofString "world").length = 5 := by decide +kernel
        simp only [wtL, wt, h5]
        omega
    refine Bx.tup (W := 1000) (N := 3) (fun d hd => ?_) ?_ (by omega)
    · simp only [List.mem_cons, List.not_mem_nil, or_false] at hd
      rcases hd with rfl | rfl
      · exact b1
      · exact b2
    · have := b1.w
      have := b2.w
      simp only [wtL]
      omega
  repeat walk_at "e"
  refine lk_some (a := .bl ([D.int 14, .int 15, .int 16, .int 21, .int 22].any fun y => PyData.eqv (py y) (.int q))) rfl ?_
  repeat walk_at "e"
  refine Cnd.of (fun _ => ?_) (fun _ => ?_)
  · repeat walk_at "e"
    exact ⟨_, _, rfl, b_int w0 w1, b_non, D6.more (by omega), F⟩
  · repeat walk_at "e"
    refine ((hdr (k + 3)).h D6 (by omega) (by decide) (by decide)).to ?_
    rintro _ st7 ⟨a, rfl, a0, a1, D7, F7⟩
    repeat walk_at "e"
    exact ⟨_, _, rfl, b_str hx2 hx1, b_int a0 (by omega), D7.more (by omega), F.trans F7⟩
end Lw

namespace Lw
open PySem PySem.Spec L2 Pd
local macro_rules | `(tactic| walk_at "d") => `(tactic| first
  | with_reducible refine sk_seq ?_ | with_reducible refine sk_set ?_ | with_reducible refine sk_ite ?_ | with_reducible refine sk_ret ?_ | with_reducible refine sk_nil ?_ | with_reducible refine sk_expr ?_
  | with_reducible refine sk_par ?_ | with_reducible refine sk_asg ?_ | with_reducible refine sk_setIx ?_ | with_reducible refine sk_star ?_ | with_reducible refine sk_for ?_ | with_reducible refine sk_retN ?_
  | with_reducible refine sk_break ?_ | with_reducible refine sk_cont ?_
  | ((with_reducible refine ok_var (d := ?d) ?h ?_); (case h => exact rfl)) | with_reducible refine ok_c ?_ | with_reducible refine ok_nil ?_ | with_reducible refine ok_cons ?_ | with_reducible refine ok_op ?_
  | with_reducible refine ok_opC ?_ | with_reducible refine ok_un ?_ | with_reducible refine ok_unC ?_ | with_reducible refine ok_not ?_ | with_reducible refine ok_and ?_ | with_reducible refine ok_or ?_
  | with_reducible refine ok_chain ?_ | with_reducible refine ok_ite ?_ | with_reducible refine ok_blt ?_ | with_reducible refine ok_call ?_ | with_reducible refine ok_oNone ?_ | with_reducible refine ok_sl ?_
  | with_reducible refine ok_dnew ?_ | with_reducible refine ok_dnewC ?_ | with_reducible refine ok_B ?_ | with_reducible refine ok_tAnd ?_ | with_reducible refine ok_tOr ?_ | with_reducible refine ok_tNot ?_
  | with_reducible refine ok_tYes ?_ | with_reducible refine ok_iAny ?_ | with_reducible refine ok_lc ?_ | with_reducible refine ok_lcC ?_
  | with_reducible refine blk_bl ?_
  | with_reducible refine Cnd.t ?_ | with_reducible refine Cnd.f ?_ | with_reducible refine Cnd.nt ?_ | with_reducible refine Cnd.nf ?_
  | with_reducible refine lk_add_int ?_ | with_reducible refine lk_sub_int ?_ | with_reducible refine lk_lt_int ?_ | with_reducible refine lk_le_int ?_ | with_reducible refine lk_gt_int ?_ | with_reducible refine lk_ge_int ?_
  | (with_reducible refine ok_tup ?_) | (with_reducible refine ok_lst ?_) | (with_reducible refine ok_lstC ?_)
  | (with_reducible refine ok_mt ?_) | (with_reducible refine ok_repl ?_)
  | (with_reducible refine ok_neg ?_) | (with_reducible refine ok_oSome ?_)
  | (with_reducible refine ok_iRng1 ?_) | (with_reducible refine ok_iRng2 ?_)
  | (with_reducible refine ⟨_, rfl, ?_⟩)
  | with_reducible refine ok_enum ?_ | with_reducible refine ok_fnv ?_ | with_reducible refine sk_put ?_ | with_reducible refine ok_callK ?_
  | ((with_reducible refine And.intro ?h ?_); (case h => first | exact Eq.refl _ | decide)))
local macro_rules | `(tactic| walk_at "e") => `(tactic| first
  | walk_at "d"
  | with_reducible refine lk_isi_str (by assumption) ?_ | with_reducible refine lk_isi_int (by assumption) ?_ | with_reducible refine lk_isi_bool (by assumption) ?_ | with_reducible refine lk_isi_tuple (by assumption) ?_
  | with_reducible refine lk_eq_str ?_ | with_reducible refine lk_ne_str ?_ | with_reducible refine lk_eq_int ?_ | with_reducible refine lk_ne_int ?_ | with_reducible refine lk_eq_nil ?_ | with_reducible refine lk_ne_nil ?_
  | with_reducible refine lk_eq_tnil ?_ | with_reducible refine lk_ne_tnil ?_ | with_reducible refine lk_in_strs rfl ?_ | with_reducible refine lk_nin_strs rfl ?_
  | ((with_reducible refine lk_ixt (a := ?a) ?h ?_); (case h => exact rfl)) | ((with_reducible refine lk_ixl (a := ?a) ?h ?_); (case h => exact rfl))
  | with_reducible refine glk_len_tup ?_ | with_reducible refine glk_len_lst ?_ | with_reducible refine glk_len_str (le_line (by omega)) ?_
  | with_reducible refine ⟨le_line (by (simp only [List.length_cons, List.length_nil]; omega)), ?_⟩)
local macro_rules | `(tactic| walk_at "f") => `(tactic| first
  | walk_at "e"
  | ((with_reducible refine Cnd.yes ?h ?_); (case h => rfl)) | ((with_reducible refine Cnd.no ?h ?_); (case h => rfl))
  | ((with_reducible refine lk_some (a := ?a) ?h ?_); (case h => exact rfl)))

theorem glk_len_cell {st : Sto} {n : Nat} {ds : List D} {Q : D → Sto → Prop} (h : st[n]? = some (.lst ds)) (q : Q (.int ds.length) st) : GLk (lenG [.cell n] st) Q := by
  refine glk_some (d := .int ds.length) (st := st) ?_ q
  show ((seqB st (.cell n)).map List.length).map (fun k => ((.int k, st) : D × Sto)) = _
  rw [seqB_cell h]; rfl
theorem glk_popAt {st : Sto} {n : Nat} {ds : List D} {i : Int} {d : D} {Q : D → Sto → Prop} (h : st[n]? = some (.lst ds)) (h0 : 0 ≤ i) (e : ds[i.toNat]? = some d) (q : Q d (st.set n (.lst (ds.eraseIdx i.toNat)))) : GLk (popAtG (.cell n) [.int i] st) Q := by
  refine glk_some (d := d) (st := st.set n (.lst (ds.eraseIdx i.toNat))) ?_ q
  show (match st[n]? with | some (.lst es) => if 0 ≤ i then (es[i.toNat]?).map fun d => (d, st.set n (.lst (es.eraseIdx i.toNat))) else none | _ => none) = _
  rw [h]
  show (if 0 ≤ i then (ds[i.toNat]?).map fun d => (d, st.set n (.lst (ds.eraseIdx i.toNat))) else none) = _
  rw [if_pos h0, e]; rfl
theorem sk_frz {i n : Nat} {m : SM} {en : En} {st : Sto} {c : Cel} {d : D} {S : SPost} (h1 : en[i]? = some (some (.cell n))) (h2 : st[n]? = some c) (h3 : frzC c = some d) (h : Sk (m (en.set i (some d)) (st.set n .dead)) S) : Sk (sFrz i m en st) S := by
  have e : frzV i en st = some (en.set i (some d), st.set n .dead) := by
    unfold frzV
    rw [h1]
    show (st[n]?.bind frzC).map _ = _
    rw [h2]
    show (frzC c).map _ = _
    rw [h3]; rfl
  show Sk (match frzV i en st with | some (en', st') => m en' st' | none => .bad) S
  rw [e]; exact h
/-- one that is made -/
structure Q1 where
  k : Nat
  a : D
  b : D
def qe (q : Q1) : D := .tup [.int (q.k : Nat), q.a, q.b, excOf q.k q.a q.b]
structure Qo (q : Q1) : Prop where
  k : q.k < 23
  a : B4 q.a
  b : B4 q.b
theorem due_bx {q : Q1} (h : Qo q) : Bx 9000 (10 ^ 39) 6 (.lst (dueOf q.k q.a q.b)) := by
  unfold dueOf
  have wa := h.a.w
  have wb := h.b.w
  split
  · exact ⟨by decide, by decide, by decide, by decide⟩
  · split
    · refine Bx.lst (W := 4000) (N := 5) (fun d hd => ?_) ?_ (by omega)
      · simp only [List.mem_cons, List.not_mem_nil, or_false] at hd
        rcases hd with rfl | rfl
        · exact h.a
        · exact h.b
      · simp only [wtL]; omega
    · refine Bx.lst (W := 4000) (N := 5) (fun d hd => ?_) ?_ (by omega)
      · simp only [List.mem_cons, List.not_mem_nil, or_false] at hd
        rcases hd with rfl
        exact h.a
      · simp only [wtL]; omega
theorem marks_bx : ∀ {k : Nat}, k < 23 → Bx 2000 (10 ^ 39) 3 (marksOf k) := by
  intro k hk
  match k, hk with
  | 0, _ => exact ⟨by decide +kernel, by decide +kernel, by decide +kernel, by decide +kernel⟩
  | 1, _ => exact ⟨by decide +kernel, by decide +kernel, by decide +kernel, by decide +kernel⟩
  | 2, _ => exact ⟨by decide +kernel, by decide +kernel, by decide +kernel, by decide +kernel⟩
  | 3, _ => exact ⟨by decide +kernel, by decide +kernel, by decide +kernel, by decide +kernel⟩
  | 4, _ => exact ⟨by decide +kernel, by decide +kernel, by decide +kernel, by decide +kernel⟩
  | 5, _ => exact ⟨by decide +kernel, by decide +kernel, by decide +kernel, by decide +kernel⟩
  | 6, _ => exact ⟨by decide +kernel, by decide +kernel, by decide +kernel, by decide +kernel⟩
  | 7, _ => exact ⟨by decide +kernel, by decide +kernel, by decide +kernel, by decide +kernel⟩
  | 8, _ => exact ⟨by decide +kernel, by decide +kernel, by decide +kernel, by decide +kernel⟩
  | 9, _ => exact ⟨by decide +kernel, by decide +kernel, by decide +kernel, by decide +kernel⟩
  | 10, _ => exact ⟨by decide +kernel, by decide +kernel, by decide +kernel, by decide +kernel⟩
  | 11, _ => exact ⟨by decide +kernel, by decide +kernel, by decide +kernel, by decide +kernel⟩
  | 12, _ => exact ⟨by decide +kernel, by decide +kernel, by decide +kernel, by decide +kernel⟩
  | 13, _ => exact ⟨by decide +kernel, by decide +kernel, by decide +kernel, by decide +kernel⟩
  | 14, _ => exact ⟨by decide +kernel, by decide +kernel, by decide +kernel, by decide +kernel⟩
  | 15, _ => exact ⟨by decide +kernel, by decide +kernel, by decide +kernel, by decide +kernel⟩
  | 16, _ => exact ⟨by decide +kernel, by decide +kernel, by decide +kernel, by decide +kernel⟩
  | 17, _ => exact ⟨by decide +kernel, by decide +kernel, by decide +kernel, by decide +kernel⟩
  | 18, _ => exact ⟨by decide +kernel, by decide +kernel, by decide +kernel, by decide +kernel⟩
  | 19, _ => exact ⟨by decide +kernel, by decide +kernel, by decide +kernel, by decide +kernel⟩
  | 20, _ => exact ⟨by decide +kernel, by decide +kernel, by decide +kernel, by decide +kernel⟩
  | 21, _ => exact ⟨by decide +kernel, by decide +kernel, by decide +kernel, by decide +kernel⟩
  | 22, _ => exact ⟨by decide +kernel, by decide +kernel, by decide +kernel, by decide +kernel⟩
  | k + 23, h => omega
/-- what is due of one, as the law says it -/
def dueE : EM := mOp ixD (mLst (lCons (mLst (lNil)) (lCons (mLst (lCons (mVar 7) (lNil))) (lCons (mLst (lCons (mVar 7) (lCons (mVar 8) (lNil)))) (lNil))))) (mIf (mB (mOp ltD (mVar 5) (mC (.int 3)))) (mC (.int 0)) (mOp addD (mC (.int 1)) (mBlt intG (lCons (mOp inD (mVar 5) (mTup (lCons (mC (.int 4)) (lCons (mC (.int 5)) (lCons (mC (.int 6)) (lCons (mC (.int 7)) (lCons (mC (.int 9)) (lCons (mC (.int 11)) (lNil))))))))) (lNil)))))
theorem due_ok : ∀ {k : Nat}, k < 23 → ∀ {a b : D} {st : Sto} {e0 e1 e2 e3 e4 e6 e9 e10 : Option D}, dueE [e0, e1, e2, e3, e4, some (.int k), e6, some a, some b, e9, e10] st = .ok (.lst (dueOf k a b)) st := by
  intro k hk a b st e0 e1 e2 e3 e4 e6 e9 e10
  match k, hk with
  | 0, _ => kernel_rfl
  | 1, _ => kernel_rfl
  | 2, _ => kernel_rfl
  | 3, _ => kernel_rfl
  | 4, _ => kernel_rfl
  | 5, _ => kernel_rfl
  | 6, _ => kernel_rfl
  | 7, _ => kernel_rfl
  | 8, _ => kernel_rfl
  | 9, _ => kernel_rfl
  | 10, _ => kernel_rfl
  | 11, _ => kernel_rfl
  | 12, _ => kernel_rfl
  | 13, _ => kernel_rfl
  | 14, _ => kernel_rfl
  | 15, _ => kernel_rfl
  | 16, _ => kernel_rfl
  | 17, _ => kernel_rfl
  | 18, _ => kernel_rfl
  | 19, _ => kernel_rfl
  | 20, _ => kernel_rfl
  | 21, _ => kernel_rfl
  | 22, _ => kernel_rfl
  | k + 23, h => omega
end Lw

namespace Lw
open PySem PySem.Spec L2 Pd
local macro_rules | `(tactic| walk_at "d") => `(tactic| first
  | with_reducible refine sk_seq ?_ | with_reducible refine sk_set ?_ | with_reducible refine sk_ite ?_ | with_reducible refine sk_ret ?_ | with_reducible refine sk_nil ?_ | with_reducible refine sk_expr ?_
  | with_reducible refine sk_par ?_ | with_reducible refine sk_asg ?_ | with_reducible refine sk_setIx ?_ | with_reducible refine sk_star ?_ | with_reducible refine sk_for ?_ | with_reducible refine sk_retN ?_
  | with_reducible refine sk_break ?_ | with_reducible refine sk_cont ?_
  | ((with_reducible refine ok_var (d := ?d) ?h ?_); (case h => exact rfl)) | with_reducible refine ok_c ?_ | with_reducible refine ok_nil ?_ | with_reducible refine ok_cons ?_ | with_reducible refine ok_op ?_
  | with_reducible refine ok_opC ?_ | with_reducible refine ok_un ?_ | with_reducible refine ok_unC ?_ | with_reducible refine ok_not ?_ | with_reducible refine ok_and ?_ | with_reducible refine ok_or ?_
  | with_reducible refine ok_chain ?_ | with_reducible refine ok_ite ?_ | with_reducible refine ok_blt ?_ | with_reducible refine ok_call ?_ | with_reducible refine ok_oNone ?_ | with_reducible refine ok_sl ?_
  | with_reducible refine ok_dnew ?_ | with_reducible refine ok_dnewC ?_ | with_reducible refine ok_B ?_ | with_reducible refine ok_tAnd ?_ | with_reducible refine ok_tOr ?_ | with_reducible refine ok_tNot ?_
  | with_reducible refine ok_tYes ?_ | with_reducible refine ok_iAny ?_ | with_reducible refine ok_lc ?_ | with_reducible refine ok_lcC ?_
  | with_reducible refine blk_bl ?_
  | with_reducible refine Cnd.t ?_ | with_reducible refine Cnd.f ?_ | with_reducible refine Cnd.nt ?_ | with_reducible refine Cnd.nf ?_
  | with_reducible refine lk_add_int ?_ | with_reducible refine lk_sub_int ?_ | with_reducible refine lk_lt_int ?_ | with_reducible refine lk_le_int ?_ | with_reducible refine lk_gt_int ?_ | with_reducible refine lk_ge_int ?_
  | (with_reducible refine ok_tup ?_) | (with_reducible refine ok_lst ?_) | (with_reducible refine ok_lstC ?_)
  | (with_reducible refine ok_mt ?_) | (with_reducible refine ok_repl ?_)
  | (with_reducible refine ok_neg ?_) | (with_reducible refine ok_oSome ?_)
  | (with_reducible refine ok_iRng1 ?_) | (with_reducible refine ok_iRng2 ?_)
  | (with_reducible refine ⟨_, rfl, ?_⟩)
  | with_reducible refine ok_enum ?_ | with_reducible refine ok_fnv ?_ | with_reducible refine sk_put ?_ | with_reducible refine ok_callK ?_
  | ((with_reducible refine And.intro ?h ?_); (case h => first | exact Eq.refl _ | decide)))
local macro_rules | `(tactic| walk_at "e") => `(tactic| first
  | walk_at "d"
  | with_reducible refine lk_isi_str (by assumption) ?_ | with_reducible refine lk_isi_int (by assumption) ?_ | with_reducible refine lk_isi_bool (by assumption) ?_ | with_reducible refine lk_isi_tuple (by assumption) ?_
  | with_reducible refine lk_eq_str ?_ | with_reducible refine lk_ne_str ?_ | with_reducible refine lk_eq_int ?_ | with_reducible refine lk_ne_int ?_ | with_reducible refine lk_eq_nil ?_ | with_reducible refine lk_ne_nil ?_
  | with_reducible refine lk_eq_tnil ?_ | with_reducible refine lk_ne_tnil ?_ | with_reducible refine lk_in_strs rfl ?_ | with_reducible refine lk_nin_strs rfl ?_
  | ((with_reducible refine lk_ixt (a := ?a) ?h ?_); (case h => exact rfl)) | ((with_reducible refine lk_ixl (a := ?a) ?h ?_); (case h => exact rfl))
  | with_reducible refine glk_len_tup ?_ | with_reducible refine glk_len_lst ?_ | with_reducible refine glk_len_str (le_line (by omega)) ?_
  | with_reducible refine ⟨le_line (by (simp only [List.length_cons, List.length_nil]; omega)), ?_⟩)
local macro_rules | `(tactic| walk_at "f") => `(tactic| first
  | walk_at "e"
  | ((with_reducible refine Cnd.yes ?h ?_); (case h => rfl)) | ((with_reducible refine Cnd.no ?h ?_); (case h => rfl))
  | ((with_reducible refine lk_some (a := ?a) ?h ?_); (case h => exact rfl)))

def lookB (G8 G5 G10 : FM) : SM := sSeq (sSet 10 dueE) (sIf (tmOr (mB (mOp neD (mBlt reprG (lCons (mCall G8 2 (lCons (mVar 5) (lCons (mVar 9) (lNil)))) (lNil))) (mBlt reprG (lCons (mVar 10) (lNil))))) (mB (mOp neD (mBlt reprG (lCons (mCall G5 1 (lCons (mVar 9) (lNil))) (lNil))) (mBlt reprG (lCons (mCall G10 1 (lCons (mVar 5) (lNil))) (lNil)))))) (sRet (mC (.bl false))) (sNil))
theorem look_gen {G8 G5 G10 : FM} {k : Int} {a b x ds M : D} {st : Sto} {e0 e1 e2 e3 e4 e6 e10 : Option D} {S : SPost} (hd : Bx 9000 (10 ^ 39) 6 ds) (hm : Bx 2000 (10 ^ 39) 3 M)
    (h0 : dueE [e0, e1, e2, e3, e4, some (.int k), e6, some a, some b, some x, e10] st = .ok ds st) (h8 : G8 [.int k, x] st = .ok ds st) (h5 : G5 [x] st = .ok M st) (h10 : G10 [.int k] st = .ok M st)
    (hn : ∀ e10', S.nx [e0, e1, e2, e3, e4, some (.int k), e6, some a, some b, some x, e10'] st) : Sk (lookB G8 G5 G10 [e0, e1, e2, e3, e4, some (.int k), e6, some a, some b, some x, e10] st) S := by
  obtain ⟨nx, rt, bk, ct, er⟩ := S
  unfold lookB
  refine sk_seq ?_
  refine sk_set ?_
  refine ok_of h0 ?_
  repeat walk_at "e"
  refine ok_of h8 ?_
  repeat walk_at "e"
  refine glk_repr hd (by decide) (by decide) (by decide) ?_
  repeat walk_at "e"
  refine glk_repr hd (by decide) (by decide) (by decide) ?_
  refine lk_ne_str ?_
  rw [beq_self_eq_true]
  repeat walk_at "e"
  refine ok_of h5 ?_
  repeat walk_at "e"
  refine glk_repr hm (by decide) (by decide) (by decide) ?_
  repeat walk_at "e"
  refine ok_of h10 ?_
  repeat walk_at "e"
  refine glk_repr hm (by decide) (by decide) (by decide) ?_
  refine lk_ne_str ?_
  rw [beq_self_eq_true]
  repeat walk_at "e"
  exact hn _
theorem look_ok {q : Q1} (h : Qo q) {st : Sto} {e0 e1 e2 e3 e4 e6 e10 : Option D} {S : SPost} (hn : ∀ e10', S.nx [e0, e1, e2, e3, e4, some (.int (q.k : Nat)), e6, some q.a, some q.b, some (excOf q.k q.a q.b), e10'] st) :
    Sk (lookB (run 11 8) (run 11 5) (run 11 10) [e0, e1, e2, e3, e4, some (.int (q.k : Nat)), e6, some q.a, some q.b, some (excOf q.k q.a q.b), e10] st) S :=
  look_gen (due_bx h) (marks_bx h.k) (due_ok h.k) (fields_ok h.k (j := 10)) (marks_ok h.k (j := 10)) (duem_ok h.k (j := 10)) hn
end Lw

namespace Lw
open PySem PySem.Spec L2 Pd
local macro_rules | `(tactic| walk_at "d") => `(tactic| first
  | with_reducible refine sk_seq ?_ | with_reducible refine sk_set ?_ | with_reducible refine sk_ite ?_ | with_reducible refine sk_ret ?_ | with_reducible refine sk_nil ?_ | with_reducible refine sk_expr ?_
  | with_reducible refine sk_par ?_ | with_reducible refine sk_asg ?_ | with_reducible refine sk_setIx ?_ | with_reducible refine sk_star ?_ | with_reducible refine sk_for ?_ | with_reducible refine sk_retN ?_
  | with_reducible refine sk_break ?_ | with_reducible refine sk_cont ?_
  | ((with_reducible refine ok_var (d := ?d) ?h ?_); (case h => exact rfl)) | with_reducible refine ok_c ?_ | with_reducible refine ok_nil ?_ | with_reducible refine ok_cons ?_ | with_reducible refine ok_op ?_
  | with_reducible refine ok_opC ?_ | with_reducible refine ok_un ?_ | with_reducible refine ok_unC ?_ | with_reducible refine ok_not ?_ | with_reducible refine ok_and ?_ | with_reducible refine ok_or ?_
  | with_reducible refine ok_chain ?_ | with_reducible refine ok_ite ?_ | with_reducible refine ok_blt ?_ | with_reducible refine ok_call ?_ | with_reducible refine ok_oNone ?_ | with_reducible refine ok_sl ?_
  | with_reducible refine ok_dnew ?_ | with_reducible refine ok_dnewC ?_ | with_reducible refine ok_B ?_ | with_reducible refine ok_tAnd ?_ | with_reducible refine ok_tOr ?_ | with_reducible refine ok_tNot ?_
  | with_reducible refine ok_tYes ?_ | with_reducible refine ok_iAny ?_ | with_reducible refine ok_lc ?_ | with_reducible refine ok_lcC ?_
  | with_reducible refine blk_bl ?_
  | with_reducible refine Cnd.t ?_ | with_reducible refine Cnd.f ?_ | with_reducible refine Cnd.nt ?_ | with_reducible refine Cnd.nf ?_
  | with_reducible refine lk_add_int ?_ | with_reducible refine lk_sub_int ?_ | with_reducible refine lk_lt_int ?_ | with_reducible refine lk_le_int ?_ | with_reducible refine lk_gt_int ?_ | with_reducible refine lk_ge_int ?_
  | (with_reducible refine ok_tup ?_) | (with_reducible refine ok_lst ?_) | (with_reducible refine ok_lstC ?_)
  | (with_reducible refine ok_mt ?_) | (with_reducible refine ok_repl ?_)
  | (with_reducible refine ok_neg ?_) | (with_reducible refine ok_oSome ?_)
  | (with_reducible refine ok_iRng1 ?_) | (with_reducible refine ok_iRng2 ?_)
  | (with_reducible refine ⟨_, rfl, ?_⟩)
  | with_reducible refine ok_enum ?_ | with_reducible refine ok_fnv ?_ | with_reducible refine sk_put ?_ | with_reducible refine ok_callK ?_
  | ((with_reducible refine And.intro ?h ?_); (case h => first | exact Eq.refl _ | decide)))
local macro_rules | `(tactic| walk_at "e") => `(tactic| first
  | walk_at "d"
  | with_reducible refine lk_isi_str (by assumption) ?_ | with_reducible refine lk_isi_int (by assumption) ?_ | with_reducible refine lk_isi_bool (by assumption) ?_ | with_reducible refine lk_isi_tuple (by assumption) ?_
  | with_reducible refine lk_eq_str ?_ | with_reducible refine lk_ne_str ?_ | with_reducible refine lk_eq_int ?_ | with_reducible refine lk_ne_int ?_ | with_reducible refine lk_eq_nil ?_ | with_reducible refine lk_ne_nil ?_
  | with_reducible refine lk_eq_tnil ?_ | with_reducible refine lk_ne_tnil ?_ | with_reducible refine lk_in_strs rfl ?_ | with_reducible refine lk_nin_strs rfl ?_
  | ((with_reducible refine lk_ixt (a := ?a) ?h ?_); (case h => exact rfl)) | ((with_reducible refine lk_ixl (a := ?a) ?h ?_); (case h => exact rfl))
  | with_reducible refine glk_len_tup ?_ | with_reducible refine glk_len_lst ?_ | with_reducible refine glk_len_str (le_line (by omega)) ?_
  | with_reducible refine ⟨le_line (by (simp only [List.length_cons, List.length_nil]; omega)), ?_⟩)
local macro_rules | `(tactic| walk_at "f") => `(tactic| first
  | walk_at "e"
  | ((with_reducible refine Cnd.yes ?h ?_); (case h => rfl)) | ((with_reducible refine Cnd.no ?h ?_); (case h => rfl))
  | ((with_reducible refine lk_some (a := ?a) ?h ?_); (case h => exact rfl)))

def makeB (G9 G6 : FM) : SM := sSeq (sAsg (gmTup [gmName 7, gmName 8]) (mCall G9 2 (lCons (mVar 1) (lCons (mVar 5) (lNil))))) (sExpr (mMt "list" appendG (mVar 3) (lCons (mTup (lCons (mVar 5) (lCons (mVar 7) (lCons (mVar 8) (lCons (mCall G6 3 (lCons (mVar 5) (lCons (mVar 7) (lCons (mVar 8) (lNil))))) (lNil)))))) (lNil))))
def turnB (G1 G9 G6 : FM) : SM := sSeq (sSet 5 (mMt "list" popAtG (mVar 2) (lCons (mCall G1 2 (lCons (mVar 1) (lCons (mBlt lenG (lCons (mVar 2) (lNil))) (lNil)))) (lNil)))) (sFor (iRng1 (mC (.int 2))) (gmName 6) (makeB G9 G6))
def lawB (G0 G1 G9 G6 G8 G5 G10 : FM) : SM := sSeq (sSet 1 (mCall G0 1 (lCons (mVar 0) (lNil)))) (sSeq (sSet 2 (mRgC (mC (.int 23)))) (sSeq (sSet 3 (mLstC (lNil))) (sSeq (sFor (iRng1 (mC (.int 23))) (gmName 4) (turnB G1 G9 G6)) (sSeq (sFrz 3 (sFor (iAny (mVar 3)) (gmTup [gmName 5, gmName 7, gmName 8, gmName 9]) (lookB G8 G5 G10))) (sRet (mC (.bl true)))))))
theorem law_is {k : Nat} : run (k + 1) 11 = fnM 11 (lawB (run k 0) (run k 1) (run k 9) (run k 6) (run k 8) (run k 5) (run k 10)) := rfl
structure St1 (st : Sto) (n m L O left : Nat) (t : Int) (xs : List Q1) : Prop where
  d : Dk st n m t
  l : ∃ ls, st[L]? = some (.lst ls) ∧ ls.length = left ∧ ∀ d ∈ ls, ∃ k : Nat, k < 23 ∧ d = .int k
  o : st[O]? = some (.lst (xs.map qe))
  q : ∀ q ∈ xs, Qo q
  h1 : L ≠ O
  h2 : L ≠ n
  h3 : L ≠ m
  h4 : O ≠ n
  h5 : O ≠ m
theorem St1.fr {st st' : Sto} {n m L O left : Nat} {t t' : Int} {xs : List Q1} (s : St1 st n m L O left t xs) (d : Dk st' n m t') (f : Fr n m st st') : St1 st' n m L O left t' xs := by
  obtain ⟨ls, h, h', h''⟩ := s.l
  exact ⟨d, ⟨ls, f L _ s.h2 s.h3 h, h', h''⟩, f O _ s.h4 s.h5 s.o, s.q, s.h1, s.h2, s.h3, s.h4, s.h5⟩
theorem St1.more {st : Sto} {n m L O left : Nat} {t t' : Int} {xs : List Q1} (s : St1 st n m L O left t xs) (h : t ≤ t') : St1 st n m L O left t' xs := { s with d := s.d.more h }
theorem make_ok {ns : List Int} {st : Sto} {n m L O left : Nat} {t : Int} {xs : List Q1} (s : St1 st n m L O left t xs) (ht : t ≤ 10 ^ 10) (hx : xs.length ≤ 100) {k : Nat} (hk : k < 23) {e4 e6 e7 e8 e9 e10 : Option D} {S : SPost}
    (hn : ∀ st' q d7 d8, Qo q → St1 st' n m L O left (t + 100) (xs ++ [q]) → S.nx [some (.scr ns), some (.cell n), some (.cell L), some (.cell O), e4, some (.int (k : Nat)), e6, some d7, some d8, e9, e10] st') :
    Sk (makeB (run 11 9) (run 11 6) [some (.scr ns), some (.cell n), some (.cell L), some (.cell O), e4, some (.int (k : Nat)), e6, e7, e8, e9, e10] st) S := by
  obtain ⟨nx, rt, bk, ct, er⟩ := S
  unfold makeB
  repeat walk_at "e"
  refine (things_ok (k := 6) s.d (by omega)).to ?_
  rintro _ st1 ⟨a, b, rfl, ba, bb, D1, F1⟩
  have s1 := s.fr D1 F1
  refine lk_some rfl ?_
  repeat walk_at "e"
  refine ⟨tyM_lst s1.o, ?_⟩
  repeat walk_at "e"
  refine ok_of (made_ok hk (j := 6)) ?_
  repeat walk_at "e"
  refine glk_append s1.o (by rw [List.length_map]; exact Nat.lt_of_lt_of_le (Nat.lt_succ_of_le hx) (le_line (by decide))) ?_
  have hq : Qo ⟨k, a, b⟩ := ⟨hk, ba, bb⟩
  have ho := get_set (c' := .lst (xs.map qe ++ [.tup [.int (k : Nat), a, b, excOf k a b]])) s1.o
  obtain ⟨ls, l1, l2, l3⟩ := s1.l
  refine hn _ ⟨k, a, b⟩ a b hq ⟨s1.d.set _ s1.h4 s1.h5, ⟨ls, get_ne l1 (Ne.symm s1.h1), l2, l3⟩, ?_, fun q h => ?_, s1.h1, s1.h2, s1.h3, s1.h4, s1.h5⟩
  · rw [ho, List.map_append]; rfl
  · rcases List.mem_append.mp h with h | h
    · exact s.q q h
    · rw [List.mem_singleton.mp h]; exact hq
theorem turn_ok {ns : List Int} {st : Sto} {n m L O left : Nat} {t : Int} {xs : List Q1} (s : St1 st n m L O (left + 1) t xs) (ht : t ≤ 10 ^ 9) (hx : xs.length ≤ 90) (hl : left < 23) {e4 e5 e6 e7 e8 e9 e10 : Option D} {S : SPost}
    (hn : ∀ st' ys e5 e6 e7 e8, ys.length = xs.length + 2 → St1 st' n m L O left (t + 300) ys → S.nx [some (.scr ns), some (.cell n), some (.cell L), some (.cell O), e4, e5, e6, e7, e8, e9, e10] st') :
    Sk (turnB (run 11 1) (run 11 9) (run 11 6) [some (.scr ns), some (.cell n), some (.cell L), some (.cell O), e4, e5, e6, e7, e8, e9, e10] st) S := by
  obtain ⟨nx, rt, bk, ct, er⟩ := S
  unfold turnB
  obtain ⟨ls, l1, l2, l3⟩ := s.l
  refine sk_seq (sk_set (ok_mt_list (ok_var (d := .cell L) rfl ⟨L, _, rfl, l1, ?_⟩)))
  repeat walk_at "e"
  refine glk_len_cell l1 ?_
  repeat walk_at "e"
  refine ((hdr 10).h s.d (by omega) (by omega) (by omega)).to ?_
  rintro _ st1 ⟨i, rfl, i0, i1, D1, F1⟩
  repeat walk_at "e"
  have s1 := s.fr D1 F1
  have l1' := F1 L _ s.h2 s.h3 l1
  have hi : i.toNat < ls.length := by omega
  refine glk_popAt l1' i0 (List.getElem?_eq_getElem hi) ?_
  obtain ⟨k, hk, ek⟩ := l3 _ (List.getElem_mem hi)
  rw [ek]
  have s2 : St1 (st1.set L (.lst (ls.eraseIdx i.toNat))) n m L O left (t + 1) xs :=
    ⟨s1.d.set _ s1.h2 s1.h3, ⟨_, get_set l1', by rw [List.length_eraseIdx_of_lt hi]; omega, fun d hd => l3 d (List.mem_of_mem_eraseIdx hd)⟩, get_ne s1.o s1.h1, s1.q, s1.h1, s1.h2, s1.h3, s1.h4, s1.h5⟩
  generalize st1.set L (.lst (ls.eraseIdx i.toNat)) = st2 at s2
  repeat walk_at "e"
  refine sk_forLoop (I := fun rest en st' => ∃ (c : Nat) (ys : List Q1) (e6 e7 e8 : Option D), rest.length + c = 2 ∧ ys.length = xs.length + c ∧ St1 st' n m L O left (t + 1 + 100 * c) ys ∧ en = [some (.scr ns), some (.cell n), some (.cell L), some (.cell O), e4, some (.int (k : Nat)), e6, e7, e8, e9, e10]) (fun en st' hh => ?_) (fun d ds en st' hh => ?_) _ _ _ ⟨0, xs, e6, e7, e8, rfl, rfl, s2.more (by omega), rfl⟩
  · obtain ⟨c, ys, e6, e7, e8, h1, h2, h3, rfl⟩ := hh
    simp only [List.length_nil, Nat.zero_add] at h1
    subst h1
    exact hn _ ys _ _ _ _ h2 (h3.more (by omega))
  · obtain ⟨c, ys, e6, e7, e8, h1, h2, h3, rfl⟩ := hh
    rw [List.length_cons] at h1
    refine lk_some rfl ?_
    refine make_ok (e6 := some d) h3 (by omega) (by omega) hk ?_
    intro st3 q d7 d8 hq h4
    exact ⟨c + 1, ys ++ [q], _, _, _, by omega, by rw [List.length_append, h2]; rfl, h4.more (by omega), rfl⟩
theorem law_true (ns : List Int) (hns : ns.length ≤ 63) : ∃ st, run 12 11 [.scr ns] [] = .ok (.bl true) st := by
  suffices h : Ok (run 12 11 [.scr ns] []) (fun d _ => d = .bl true) NoE by
    obtain ⟨a, st, e, rfl⟩ := h.eq
    exact ⟨st, e⟩
  rw [law_is]
  refine ok_fn (en := [some (.scr ns), none, none, none, none, none, none, none, none, none, none]) rfl ?_
  unfold lawB
  repeat walk_at "e"
  rw [r0]
  refine (deck_ok hns).to ?_
  rintro _ st1 ⟨n, m, rfl, D1⟩
  refine sk_seq (sk_set ?_)
  have hlt : n < st1.length ∧ m < st1.length := by
    obtain ⟨_, _, _, _, q1, q2, _⟩ := D1
    exact ⟨lt_of_get q1, lt_of_get q2⟩
  refine ok_of (a := .cell st1.length) (st := st1 ++ [.lst (rng 0 23)]) rfl ?_
  refine sk_seq (sk_set (ok_lstC ?_))
  repeat walk_at "e"
  have s0 : St1 (st1 ++ [.lst (rng 0 23)] ++ [.lst []]) n m st1.length (st1 ++ [Cel.lst (rng 0 23)]).length 23 0 [] := by
    have hl : (st1 ++ [Cel.lst (rng 0 23)]).length = st1.length + 1 := by rw [List.length_append]; rfl
    refine ⟨(D1.app _).app _, ⟨rng 0 23, get_app get_new, rfl, fun d hd => ?_⟩, get_new, nofun, by omega, by omega, by omega, by omega, by omega⟩
    rw [rng0] at hd
    obtain ⟨i, hi, rfl⟩ := List.mem_map.mp hd
    exact ⟨i, List.mem_range.mp hi, rfl⟩
  generalize (st1 ++ [Cel.lst (rng 0 23)]).length = O at s0
  generalize st1 ++ [.lst (rng 0 23)] ++ [.lst []] = st2 at s0
  generalize st1.length = L at s0
  repeat walk_at "e"
  refine sk_forLoop (I := fun rest en st' => ∃ (c : Nat) (ys : List Q1) (e4 e5 e6 e7 e8 : Option D), rest.length = c ∧ c ≤ 23 ∧ ys.length + 2 * c = 46 ∧ St1 st' n m L O c (300 * (23 - c)) ys ∧ en = [some (.scr ns), some (.cell n), some (.cell L), some (.cell O), e4, e5, e6, e7, e8, none, none]) (fun en st' hh => ?_) (fun d ds en st' hh => ?_) _ _ _ ⟨23, [], none, none, none, none, none, rfl, by decide, rfl, s0.more (by decide), rfl⟩
  · obtain ⟨c, ys, e4, e5, e6, e7, e8, h1, h2, h3, h4, rfl⟩ := hh
    refine sk_seq (sk_frz (n := O) (c := .lst (ys.map qe)) (d := .lst (ys.map qe)) rfl h4.o rfl ?_)
    refine sk_for (ok_iAny (ok_var (d := .lst (ys.map qe)) rfl ?_))
    refine sk_forMap qe ys (fun _ en _ => ∃ e5 e6 e7 e8 e9 e10, en = [some (.scr ns), some (.cell n), some (.cell L), some (.lst (ys.map qe)), e4, e5, e6, e7, e8, e9, e10]) rfl ⟨_, _, _, _, _, _, rfl⟩ (fun en st3 hh => ?_) fun done q rest en st3 hy hh => ?_
    · obtain ⟨e5, e6, e7, e8, e9, e10, rfl⟩ := hh
      repeat walk_at "e"
      rfl
    · obtain ⟨e5, e6, e7, e8, e9, e10, rfl⟩ := hh
      refine lk_some (a := [some (.scr ns), some (.cell n), some (.cell L), some (.lst (ys.map qe)), e4, some (.int (q.k : Nat)), e6, some q.a, some q.b, some (excOf q.k q.a q.b), e10]) rfl ?_
      exact look_ok (h4.q q (by rw [hy]; simp)) fun e10' => ⟨_, _, _, _, _, _, rfl⟩
  · obtain ⟨c, ys, e4, e5, e6, e7, e8, h1, h2, h3, h4, rfl⟩ := hh
    rw [List.length_cons] at h1
    subst h1
    refine lk_some rfl ?_
    refine turn_ok (e4 := some d) (left := ds.length) h4 (by omega) (by omega) (by omega) ?_
    intro st3 zs e5 e6 e7 e8 hz h5
    exact ⟨ds.length, zs, _, _, _, _, _, rfl, by omega, by omega, h5.more (by omega), rfl⟩
end Lw

namespace Lw
open PySem PySem.Spec L2 Pd
def LV : Nat := 12
theorem rgL : RG LV callerA := ⟨⟨rfl, by decide +kernel, by decide +kernel⟩, rfl⟩
end Lw
namespace Lw
open PySem PySem.Spec L2 Pd
noncomputable section
set_option maxHeartbeats 0 in
theorem all_mk {l : PySem.W.OpenLaw} {w : World} {K : PySem.W.Frag} {h : Heap} {mg : Str → Option Value} {fl : Addr} (X : K.In h) (G : h.Ns mainGlobals mg) (hfa : mg "law" = some (.ref fl))
    {f0 : Addr} {od0 an0 : Option Addr} {sl0 : Array (Option Value)} {oc0 kV0 dc0 pm0 cd0 ct0 : Value}
    {f1 : Addr} {od1 an1 : Option Addr} {sl1 : Array (Option Value)} {oc1 kV1 dc1 pm1 cd1 ct1 : Value}
    {f2 : Addr} {od2 an2 : Option Addr} {sl2 : Array (Option Value)} {oc2 kV2 dc2 pm2 cd2 ct2 : Value}
    {f3 : Addr} {od3 an3 : Option Addr} {sl3 : Array (Option Value)} {oc3 kV3 dc3 pm3 cd3 ct3 : Value}
    {f4 : Addr} {od4 an4 : Option Addr} {sl4 : Array (Option Value)} {oc4 kV4 dc4 pm4 cd4 ct4 : Value}
    {f5 : Addr} {od5 an5 : Option Addr} {sl5 : Array (Option Value)} {oc5 kV5 dc5 pm5 cd5 ct5 : Value}
    {f6 : Addr} {od6 an6 : Option Addr} {sl6 : Array (Option Value)} {oc6 kV6 dc6 pm6 cd6 ct6 : Value}
    {f7 : Addr} {od7 an7 : Option Addr} {sl7 : Array (Option Value)} {oc7 kV7 dc7 pm7 cd7 ct7 : Value}
    {f8 : Addr} {od8 an8 : Option Addr} {sl8 : Array (Option Value)} {oc8 kV8 dc8 pm8 cd8 ct8 : Value}
    {f9 : Addr} {od9 an9 : Option Addr} {sl9 : Array (Option Value)} {oc9 kV9 dc9 pm9 cd9 ct9 : Value}
    {f10 : Addr} {od10 an10 : Option Addr} {sl10 : Array (Option Value)} {oc10 kV10 dc10 pm10 cd10 ct10 : Value}
    {f11 : Addr} {od11 an11 : Option Addr} {sl11 : Array (Option Value)} {oc11 kV11 dc11 pm11 cd11 ct11 : Value}
    {A0 : Addr}
    {A1 : Addr}
    {A2 : Addr}
    {A3 : Addr}
    {A4 : Addr}
    {xf4 : Addr} {xo4 xn4 : Option Addr} {xs4 : Array (Option Value)} {xoc4 xkV4 xdc4 xpm4 xcd4 xct4 : Value}
    {A5 : Addr}
    {xf5 : Addr} {xo5 xn5 : Option Addr} {xs5 : Array (Option Value)} {xoc5 xkV5 xdc5 xpm5 xcd5 xct5 : Value}
    {A6 : Addr}
    {xf6 : Addr} {xo6 xn6 : Option Addr} {xs6 : Array (Option Value)} {xoc6 xkV6 xdc6 xpm6 xcd6 xct6 : Value}
    {A7 : Addr}
    {xf7 : Addr} {xo7 xn7 : Option Addr} {xs7 : Array (Option Value)} {xoc7 xkV7 xdc7 xpm7 xcd7 xct7 : Value}
    {A8 : Addr}
    {xf8 : Addr} {xo8 xn8 : Option Addr} {xs8 : Array (Option Value)} {xoc8 xkV8 xdc8 xpm8 xcd8 xct8 : Value}
    {A9 : Addr}
    {xf9 : Addr} {xo9 xn9 : Option Addr} {xs9 : Array (Option Value)} {xoc9 xkV9 xdc9 xpm9 xcd9 xct9 : Value}
    {A10 : Addr}
    {xf10 : Addr} {xo10 xn10 : Option Addr} {xs10 : Array (Option Value)} {xoc10 xkV10 xdc10 xpm10 xcd10 xct10 : Value}
    {A11 : Addr}
    {xf11 : Addr} {xo11 xn11 : Option Addr} {xs11 : Array (Option Value)} {xoc11 xkV11 xdc11 xpm11 xcd11 xct11 : Value}
    {A12 : Addr}
    {xf12 : Addr} {xo12 xn12 : Option Addr} {xs12 : Array (Option Value)} {xoc12 xkV12 xdc12 xpm12 xcd12 xct12 : Value}
    {A13 : Addr}
    {xf13 : Addr} {xo13 xn13 : Option Addr} {xs13 : Array (Option Value)} {xoc13 xkV13 xdc13 xpm13 xcd13 xct13 : Value}
    {A14 : Addr}
    {xf14 : Addr} {xo14 xn14 : Option Addr} {xs14 : Array (Option Value)} {xoc14 xkV14 xdc14 xpm14 xcd14 xct14 : Value}
    {A15 : Addr}
    {xf15 : Addr} {xo15 xn15 : Option Addr} {xs15 : Array (Option Value)} {xoc15 xkV15 xdc15 xpm15 xcd15 xct15 : Value}
    {A16 : Addr}
    {A17 : Addr}
    {xf17 : Addr} {xo17 xn17 : Option Addr} {xs17 : Array (Option Value)} {xoc17 xkV17 xdc17 xpm17 xcd17 xct17 : Value}
    {A18 : Addr}
    {xf18 : Addr} {xo18 xn18 : Option Addr} {xs18 : Array (Option Value)} {xoc18 xkV18 xdc18 xpm18 xcd18 xct18 : Value}
    {A19 : Addr}
    {A20 : Addr}
    {xf20 : Addr} {xo20 xn20 : Option Addr} {xs20 : Array (Option Value)} {xoc20 xkV20 xdc20 xpm20 xcd20 xct20 : Value}
    {A21 : Addr}
    {xf21 : Addr} {xo21 xn21 : Option Addr} {xs21 : Array (Option Value)} {xoc21 xkV21 xdc21 xpm21 xcd21 xct21 : Value}
    {A22 : Addr}
    {xf22 : Addr} {xo22 xn22 : Option Addr} {xs22 : Array (Option Value)} {xoc22 xkV22 xdc22 xpm22 xcd22 xct22 : Value}
    {A23 : Addr}
    {xf23 : Addr} {xo23 xn23 : Option Addr} {xs23 : Array (Option Value)} {xoc23 xkV23 xdc23 xpm23 xcd23 xct23 : Value}
    {A24 : Addr}
    {xf24 : Addr} {xo24 xn24 : Option Addr} {xs24 : Array (Option Value)} {xoc24 xkV24 xdc24 xpm24 xcd24 xct24 : Value}
    {A25 : Addr}
    {xf25 : Addr} {xo25 xn25 : Option Addr} {xs25 : Array (Option Value)} {xoc25 xkV25 xdc25 xpm25 xcd25 xct25 : Value}
    (a0 : PySem.W.nsIn K mainGlobals "_law_deck" = some (some (.ref f0))) (l0 : K.lookup f0 = some ⟨oc0, od0, .func (PySem.W.fnOf "_law_deck" "_law_deck" (defArgs s0) (defBody s0) (defScope s0) .none kV0 dc0 pm0 an0 cd0 ct0), sl0⟩) (c0 : PySem.W.codeIn K cd0 "_law_deck" = true) (k0 : PySem.W.keepIn K (.ref f0) = true)
    (a1 : PySem.W.nsIn K mainGlobals "_law_draw" = some (some (.ref f1))) (l1 : K.lookup f1 = some ⟨oc1, od1, .func (PySem.W.fnOf "_law_draw" "_law_draw" (defArgs s1) (defBody s1) (defScope s1) .none kV1 dc1 pm1 an1 cd1 ct1), sl1⟩) (c1 : PySem.W.codeIn K cd1 "_law_draw" = true) (k1 : PySem.W.keepIn K (.ref f1) = true)
    (a2 : PySem.W.nsIn K mainGlobals "_law_name" = some (some (.ref f2))) (l2 : K.lookup f2 = some ⟨oc2, od2, .func (PySem.W.fnOf "_law_name" "_law_name" (defArgs s2) (defBody s2) (defScope s2) .none kV2 dc2 pm2 an2 cd2 ct2), sl2⟩) (c2 : PySem.W.codeIn K cd2 "_law_name" = true) (k2 : PySem.W.keepIn K (.ref f2) = true)
    (a3 : PySem.W.nsIn K mainGlobals "_law_far" = some (some (.ref f3))) (l3 : K.lookup f3 = some ⟨oc3, od3, .func (PySem.W.fnOf "_law_far" "_law_far" (defArgs s3) (defBody s3) (defScope s3) .none kV3 dc3 pm3 an3 cd3 ct3), sl3⟩) (c3 : PySem.W.codeIn K cd3 "_law_far" = true) (k3 : PySem.W.keepIn K (.ref f3) = true)
    (a4 : PySem.W.nsIn K mainGlobals "_law_called" = some (some (.ref f4))) (l4 : K.lookup f4 = some ⟨oc4, od4, .func (PySem.W.fnOf "_law_called" "_law_called" (defArgs s4) (defBody s4) (defScope s4) .none kV4 dc4 pm4 an4 cd4 ct4), sl4⟩) (c4 : PySem.W.codeIn K cd4 "_law_called" = true) (k4 : PySem.W.keepIn K (.ref f4) = true)
    (a5 : PySem.W.nsIn K mainGlobals "_law_marks" = some (some (.ref f5))) (l5 : K.lookup f5 = some ⟨oc5, od5, .func (PySem.W.fnOf "_law_marks" "_law_marks" (defArgs s5) (defBody s5) (defScope s5) .none kV5 dc5 pm5 an5 cd5 ct5), sl5⟩) (c5 : PySem.W.codeIn K cd5 "_law_marks" = true) (k5 : PySem.W.keepIn K (.ref f5) = true)
    (a6 : PySem.W.nsIn K mainGlobals "_law_made" = some (some (.ref f6))) (l6 : K.lookup f6 = some ⟨oc6, od6, .func (PySem.W.fnOf "_law_made" "_law_made" (defArgs s6) (defBody s6) (defScope s6) .none kV6 dc6 pm6 an6 cd6 ct6), sl6⟩) (c6 : PySem.W.codeIn K cd6 "_law_made" = true) (k6 : PySem.W.keepIn K (.ref f6) = true)
    (a7 : PySem.W.nsIn K mainGlobals "_law_made_further" = some (some (.ref f7))) (l7 : K.lookup f7 = some ⟨oc7, od7, .func (PySem.W.fnOf "_law_made_further" "_law_made_further" (defArgs s7) (defBody s7) (defScope s7) .none kV7 dc7 pm7 an7 cd7 ct7), sl7⟩) (c7 : PySem.W.codeIn K cd7 "_law_made_further" = true) (k7 : PySem.W.keepIn K (.ref f7) = true)
    (a8 : PySem.W.nsIn K mainGlobals "_law_fields" = some (some (.ref f8))) (l8 : K.lookup f8 = some ⟨oc8, od8, .func (PySem.W.fnOf "_law_fields" "_law_fields" (defArgs s8) (defBody s8) (defScope s8) .none kV8 dc8 pm8 an8 cd8 ct8), sl8⟩) (c8 : PySem.W.codeIn K cd8 "_law_fields" = true) (k8 : PySem.W.keepIn K (.ref f8) = true)
    (a9 : PySem.W.nsIn K mainGlobals "_law_things" = some (some (.ref f9))) (l9 : K.lookup f9 = some ⟨oc9, od9, .func (PySem.W.fnOf "_law_things" "_law_things" (defArgs s9) (defBody s9) (defScope s9) .none kV9 dc9 pm9 an9 cd9 ct9), sl9⟩) (c9 : PySem.W.codeIn K cd9 "_law_things" = true) (k9 : PySem.W.keepIn K (.ref f9) = true)
    (a10 : PySem.W.nsIn K mainGlobals "_law_due_marks" = some (some (.ref f10))) (l10 : K.lookup f10 = some ⟨oc10, od10, .func (PySem.W.fnOf "_law_due_marks" "_law_due_marks" (defArgs s10) (defBody s10) (defScope s10) .none kV10 dc10 pm10 an10 cd10 ct10), sl10⟩) (c10 : PySem.W.codeIn K cd10 "_law_due_marks" = true) (k10 : PySem.W.keepIn K (.ref f10) = true)
    (a11 : PySem.W.nsIn K mainGlobals "law" = some (some (.ref f11))) (l11 : K.lookup f11 = some ⟨oc11, od11, .func (PySem.W.fnOf "law" "law" (defArgs s11) (defBody s11) (defScope s11) .none kV11 dc11 pm11 an11 cd11 ct11), sl11⟩) (c11 : PySem.W.codeIn K cd11 "law" = true) (k11 : PySem.W.keepIn K (.ref f11) = true)
    (ka0 : PySem.W.nsIn K mainGlobals "TongueError" = some (some (.ref A0)))
    (kx0 : xclB K A0 PySem.HandSPX.veTail "ValueError.__new__" = true)
    (ka1 : PySem.W.nsIn K mainGlobals "NoText" = some (some (.ref A1)))
    (kx1 : xclB K A1 PySem.HandSPX.veTail "ValueError.__new__" = true)
    (ka2 : PySem.W.nsIn K mainGlobals "NoItem" = some (some (.ref A2)))
    (kx2 : xclB K A2 PySem.HandSPX.veTail "ValueError.__new__" = true)
    (ka3 : PySem.W.nsIn K mainGlobals "NoTerm" = some (some (.ref A3)))
    (kx3 : xclB K A3 PySem.HandSPX.veTail "ValueError.__new__" = true)
    (ka4 : PySem.W.nsIn K mainGlobals "Taken" = some (some (.ref A4)))
    (kx4 : xclB K A4 PySem.HandSPX.veTail "ValueError.__new__" = true)
    (ka5 : PySem.W.nsIn K mainGlobals "Unjudged" = some (some (.ref A5)))
    (kx5 : xclB K A5 PySem.HandSPX.veTail "ValueError.__new__" = true)
    (ka6 : PySem.W.nsIn K mainGlobals "Holds" = some (some (.ref A6)))
    (kx6 : xclB K A6 PySem.HandSPX.veTail "ValueError.__new__" = true)
    (ka7 : PySem.W.nsIn K mainGlobals "NoRow" = some (some (.ref A7)))
    (kx7 : xclB K A7 PySem.HandSPX.veTail "ValueError.__new__" = true)
    (ka8 : PySem.W.nsIn K mainGlobals "NoEnd" = some (some (.ref A8)))
    (kx8 : xclB K A8 PySem.HandSPX.veTail "ValueError.__new__" = true)
    (ka9 : PySem.W.nsIn K mainGlobals "Ring" = some (some (.ref A9)))
    (kx9 : xclB K A9 PySem.HandSPX.veTail "ValueError.__new__" = true)
    (ka10 : PySem.W.nsIn K mainGlobals "Lacks" = some (some (.ref A10)))
    (kx10 : xclB K A10 PySem.HandSPX.veTail "ValueError.__new__" = true)
    (ka11 : PySem.W.nsIn K mainGlobals "Unclear" = some (some (.ref A11)))
    (kx11 : xclB K A11 PySem.HandSPX.veTail "ValueError.__new__" = true)
    (ka12 : PySem.W.nsIn K mainGlobals "Idle" = some (some (.ref A12)))
    (kx12 : xclB K A12 PySem.HandSPX.veTail "ValueError.__new__" = true)
    (ka13 : PySem.W.nsIn K mainGlobals "Broken" = some (some (.ref A13)))
    (kx13 : xclB K A13 PySem.HandSPX.veTail "ValueError.__new__" = true)
    (ka14 : PySem.W.nsIn K mainGlobals "Holed" = some (some (.ref A14)))
    (kx14 : xclB K A14 PySem.HandSPX.veTail "ValueError.__new__" = true)
    (ka15 : PySem.W.nsIn K mainGlobals "NoBack" = some (some (.ref A15)))
    (kx15 : xclB K A15 PySem.HandSPX.veTail "ValueError.__new__" = true)
    (ka16 : PySem.W.nsIn K mainGlobals "TooMuch" = some (some (.ref A16)))
    (kx16 : xclB K A16 PySem.HandSPX.veTail "ValueError.__new__" = true)
    (ka17 : PySem.W.nsIn K mainGlobals "TooLong" = some (some (.ref A17)))
    (kx17 : xclB K A17 PySem.HandSPX.veTail "ValueError.__new__" = true)
    (ka18 : PySem.W.nsIn K mainGlobals "TooGreat" = some (some (.ref A18)))
    (kx18 : xclB K A18 PySem.HandSPX.veTail "ValueError.__new__" = true)
    (ka19 : PySem.W.nsIn K mainGlobals "Absent" = some (some (.ref A19)))
    (kx19 : xclB K A19 Px.keTail "LookupError.__new__" = true)
    (ka20 : PySem.W.nsIn K mainGlobals "NoName" = some (some (.ref A20)))
    (kx20 : xclB K A20 Px.keTail "LookupError.__new__" = true)
    (ka21 : PySem.W.nsIn K mainGlobals "NoSpot" = some (some (.ref A21)))
    (kx21 : xclB K A21 Px.keTail "LookupError.__new__" = true)
    (ka22 : PySem.W.nsIn K mainGlobals "NoLibrary" = some (some (.ref A22)))
    (kx22 : xclB K A22 Px.keTail "LookupError.__new__" = true)
    (ka23 : PySem.W.nsIn K mainGlobals "NoHole" = some (some (.ref A23)))
    (kx23 : xclB K A23 Px.keTail "LookupError.__new__" = true)
    (ka24 : PySem.W.nsIn K mainGlobals "NoPicture" = some (some (.ref A24)))
    (kx24 : xclB K A24 Px.keTail "LookupError.__new__" = true)
    (ka25 : PySem.W.nsIn K mainGlobals "NoWorth" = some (some (.ref A25)))
    (kx25 : xclB K A25 Px.keTail "LookupError.__new__" = true)
    (ke1 : PySem.W.excIn K A1 [.type "ValueError", .type "Exception", .type "BaseException", .type "object"] "ValueError.__new__" = true)
    (ke2 : PySem.W.excIn K A2 [.type "ValueError", .type "Exception", .type "BaseException", .type "object"] "ValueError.__new__" = true)
    (ke3 : PySem.W.excIn K A3 [.type "ValueError", .type "Exception", .type "BaseException", .type "object"] "ValueError.__new__" = true)
    (ki4 : PySem.W.findIn K (.ref A4) "__init__" = some (some (.ref xf4))) (kt4 : PySem.W.typeIn K (.ref xf4) = some (.type "function")) (kl4 : K.lookup xf4 = some ⟨xoc4, xo4, .func (PySem.W.fnOf "__init__" "Taken.__init__" (defArgs xm4) (defBody xm4) (defScope xm4) .none xkV4 xdc4 xpm4 xn4 xcd4 xct4), xs4⟩) (kc4 : PySem.W.codeIn K xcd4 "Taken.__init__" = true) (kk4 : PySem.W.keepIn K (.ref xf4) = true)
    (kb4 : xiB K A0 "ValueError.__init__" = true)
    (kf4_name : PySem.W.findIn K (.ref A4) "name" = some none)
    (ki5 : PySem.W.findIn K (.ref A5) "__init__" = some (some (.ref xf5))) (kt5 : PySem.W.typeIn K (.ref xf5) = some (.type "function")) (kl5 : K.lookup xf5 = some ⟨xoc5, xo5, .func (PySem.W.fnOf "__init__" "Unjudged.__init__" (defArgs xm5) (defBody xm5) (defScope xm5) .none xkV5 xdc5 xpm5 xn5 xcd5 xct5), xs5⟩) (kc5 : PySem.W.codeIn K xcd5 "Unjudged.__init__" = true) (kk5 : PySem.W.keepIn K (.ref xf5) = true)
    (kb5 : xiB K A0 "ValueError.__init__" = true)
    (kf5_spot : PySem.W.findIn K (.ref A5) "spot" = some none)
    (kf5_word : PySem.W.findIn K (.ref A5) "word" = some none)
    (ki6 : PySem.W.findIn K (.ref A6) "__init__" = some (some (.ref xf6))) (kt6 : PySem.W.typeIn K (.ref xf6) = some (.type "function")) (kl6 : K.lookup xf6 = some ⟨xoc6, xo6, .func (PySem.W.fnOf "__init__" "Holds.__init__" (defArgs xm6) (defBody xm6) (defScope xm6) .none xkV6 xdc6 xpm6 xn6 xcd6 xct6), xs6⟩) (kc6 : PySem.W.codeIn K xcd6 "Holds.__init__" = true) (kk6 : PySem.W.keepIn K (.ref xf6) = true)
    (kb6 : xiB K A0 "ValueError.__init__" = true)
    (kf6_shape : PySem.W.findIn K (.ref A6) "shape" = some none)
    (kf6_k : PySem.W.findIn K (.ref A6) "k" = some none)
    (ki7 : PySem.W.findIn K (.ref A7) "__init__" = some (some (.ref xf7))) (kt7 : PySem.W.typeIn K (.ref xf7) = some (.type "function")) (kl7 : K.lookup xf7 = some ⟨xoc7, xo7, .func (PySem.W.fnOf "__init__" "NoRow.__init__" (defArgs xm7) (defBody xm7) (defScope xm7) .none xkV7 xdc7 xpm7 xn7 xcd7 xct7), xs7⟩) (kc7 : PySem.W.codeIn K xcd7 "NoRow.__init__" = true) (kk7 : PySem.W.keepIn K (.ref xf7) = true)
    (kb7 : xiB K A0 "ValueError.__init__" = true)
    (kf7_row : PySem.W.findIn K (.ref A7) "row" = some none)
    (kf7_word : PySem.W.findIn K (.ref A7) "word" = some none)
    (ki8 : PySem.W.findIn K (.ref A8) "__init__" = some (some (.ref xf8))) (kt8 : PySem.W.typeIn K (.ref xf8) = some (.type "function")) (kl8 : K.lookup xf8 = some ⟨xoc8, xo8, .func (PySem.W.fnOf "__init__" "NoEnd.__init__" (defArgs xm8) (defBody xm8) (defScope xm8) .none xkV8 xdc8 xpm8 xn8 xcd8 xct8), xs8⟩) (kc8 : PySem.W.codeIn K xcd8 "NoEnd.__init__" = true) (kk8 : PySem.W.keepIn K (.ref xf8) = true)
    (kb8 : xiB K A0 "ValueError.__init__" = true)
    (kf8_name : PySem.W.findIn K (.ref A8) "name" = some none)
    (kf8_row : PySem.W.findIn K (.ref A8) "row" = some none)
    (ki9 : PySem.W.findIn K (.ref A9) "__init__" = some (some (.ref xf9))) (kt9 : PySem.W.typeIn K (.ref xf9) = some (.type "function")) (kl9 : K.lookup xf9 = some ⟨xoc9, xo9, .func (PySem.W.fnOf "__init__" "Ring.__init__" (defArgs xm9) (defBody xm9) (defScope xm9) .none xkV9 xdc9 xpm9 xn9 xcd9 xct9), xs9⟩) (kc9 : PySem.W.codeIn K xcd9 "Ring.__init__" = true) (kk9 : PySem.W.keepIn K (.ref xf9) = true)
    (kb9 : xiB K A0 "ValueError.__init__" = true)
    (kf9_names : PySem.W.findIn K (.ref A9) "names" = some none)
    (ki10 : PySem.W.findIn K (.ref A10) "__init__" = some (some (.ref xf10))) (kt10 : PySem.W.typeIn K (.ref xf10) = some (.type "function")) (kl10 : K.lookup xf10 = some ⟨xoc10, xo10, .func (PySem.W.fnOf "__init__" "Lacks.__init__" (defArgs xm10) (defBody xm10) (defScope xm10) .none xkV10 xdc10 xpm10 xn10 xcd10 xct10), xs10⟩) (kc10 : PySem.W.codeIn K xcd10 "Lacks.__init__" = true) (kk10 : PySem.W.keepIn K (.ref xf10) = true)
    (kb10 : xiB K A0 "ValueError.__init__" = true)
    (kf10_name : PySem.W.findIn K (.ref A10) "name" = some none)
    (kf10_arguments : PySem.W.findIn K (.ref A10) "arguments" = some none)
    (ki11 : PySem.W.findIn K (.ref A11) "__init__" = some (some (.ref xf11))) (kt11 : PySem.W.typeIn K (.ref xf11) = some (.type "function")) (kl11 : K.lookup xf11 = some ⟨xoc11, xo11, .func (PySem.W.fnOf "__init__" "Unclear.__init__" (defArgs xm11) (defBody xm11) (defScope xm11) .none xkV11 xdc11 xpm11 xn11 xcd11 xct11), xs11⟩) (kc11 : PySem.W.codeIn K xcd11 "Unclear.__init__" = true) (kk11 : PySem.W.keepIn K (.ref xf11) = true)
    (kb11 : xiB K A0 "ValueError.__init__" = true)
    (kf11_name : PySem.W.findIn K (.ref A11) "name" = some none)
    (ki12 : PySem.W.findIn K (.ref A12) "__init__" = some (some (.ref xf12))) (kt12 : PySem.W.typeIn K (.ref xf12) = some (.type "function")) (kl12 : K.lookup xf12 = some ⟨xoc12, xo12, .func (PySem.W.fnOf "__init__" "Idle.__init__" (defArgs xm12) (defBody xm12) (defScope xm12) .none xkV12 xdc12 xpm12 xn12 xcd12 xct12), xs12⟩) (kc12 : PySem.W.codeIn K xcd12 "Idle.__init__" = true) (kk12 : PySem.W.keepIn K (.ref xf12) = true)
    (kb12 : xiB K A0 "ValueError.__init__" = true)
    (kf12_name : PySem.W.findIn K (.ref A12) "name" = some none)
    (kf12_row : PySem.W.findIn K (.ref A12) "row" = some none)
    (ki13 : PySem.W.findIn K (.ref A13) "__init__" = some (some (.ref xf13))) (kt13 : PySem.W.typeIn K (.ref xf13) = some (.type "function")) (kl13 : K.lookup xf13 = some ⟨xoc13, xo13, .func (PySem.W.fnOf "__init__" "Broken.__init__" (defArgs xm13) (defBody xm13) (defScope xm13) .none xkV13 xdc13 xpm13 xn13 xcd13 xct13), xs13⟩) (kc13 : PySem.W.codeIn K xcd13 "Broken.__init__" = true) (kk13 : PySem.W.keepIn K (.ref xf13) = true)
    (kb13 : xiB K A0 "ValueError.__init__" = true)
    (kf13_name : PySem.W.findIn K (.ref A13) "name" = some none)
    (ki14 : PySem.W.findIn K (.ref A14) "__init__" = some (some (.ref xf14))) (kt14 : PySem.W.typeIn K (.ref xf14) = some (.type "function")) (kl14 : K.lookup xf14 = some ⟨xoc14, xo14, .func (PySem.W.fnOf "__init__" "Holed.__init__" (defArgs xm14) (defBody xm14) (defScope xm14) .none xkV14 xdc14 xpm14 xn14 xcd14 xct14), xs14⟩) (kc14 : PySem.W.codeIn K xcd14 "Holed.__init__" = true) (kk14 : PySem.W.keepIn K (.ref xf14) = true)
    (kb14 : xiB K A0 "ValueError.__init__" = true)
    (kf14_name : PySem.W.findIn K (.ref A14) "name" = some none)
    (ki15 : PySem.W.findIn K (.ref A15) "__init__" = some (some (.ref xf15))) (kt15 : PySem.W.typeIn K (.ref xf15) = some (.type "function")) (kl15 : K.lookup xf15 = some ⟨xoc15, xo15, .func (PySem.W.fnOf "__init__" "NoBack.__init__" (defArgs xm15) (defBody xm15) (defScope xm15) .none xkV15 xdc15 xpm15 xn15 xcd15 xct15), xs15⟩) (kc15 : PySem.W.codeIn K xcd15 "NoBack.__init__" = true) (kk15 : PySem.W.keepIn K (.ref xf15) = true)
    (kb15 : xiB K A0 "ValueError.__init__" = true)
    (kf15_many : PySem.W.findIn K (.ref A15) "many" = some none)
    (ki17 : PySem.W.findIn K (.ref A17) "__init__" = some (some (.ref xf17))) (kt17 : PySem.W.typeIn K (.ref xf17) = some (.type "function")) (kl17 : K.lookup xf17 = some ⟨xoc17, xo17, .func (PySem.W.fnOf "__init__" "TooLong.__init__" (defArgs xm17) (defBody xm17) (defScope xm17) .none xkV17 xdc17 xpm17 xn17 xcd17 xct17), xs17⟩) (kc17 : PySem.W.codeIn K xcd17 "TooLong.__init__" = true) (kk17 : PySem.W.keepIn K (.ref xf17) = true)
    (kb17 : xiB K A16 "ValueError.__init__" = true)
    (kf17_most : PySem.W.findIn K (.ref A17) "most" = some none)
    (ki18 : PySem.W.findIn K (.ref A18) "__init__" = some (some (.ref xf18))) (kt18 : PySem.W.typeIn K (.ref xf18) = some (.type "function")) (kl18 : K.lookup xf18 = some ⟨xoc18, xo18, .func (PySem.W.fnOf "__init__" "TooGreat.__init__" (defArgs xm18) (defBody xm18) (defScope xm18) .none xkV18 xdc18 xpm18 xn18 xcd18 xct18), xs18⟩) (kc18 : PySem.W.codeIn K xcd18 "TooGreat.__init__" = true) (kk18 : PySem.W.keepIn K (.ref xf18) = true)
    (kb18 : xiB K A16 "ValueError.__init__" = true)
    (kf18_size : PySem.W.findIn K (.ref A18) "size" = some none)
    (ki20 : PySem.W.findIn K (.ref A20) "__init__" = some (some (.ref xf20))) (kt20 : PySem.W.typeIn K (.ref xf20) = some (.type "function")) (kl20 : K.lookup xf20 = some ⟨xoc20, xo20, .func (PySem.W.fnOf "__init__" "NoName.__init__" (defArgs xm20) (defBody xm20) (defScope xm20) .none xkV20 xdc20 xpm20 xn20 xcd20 xct20), xs20⟩) (kc20 : PySem.W.codeIn K xcd20 "NoName.__init__" = true) (kk20 : PySem.W.keepIn K (.ref xf20) = true)
    (kb20 : xiB K A19 "KeyError.__init__" = true)
    (kf20_name : PySem.W.findIn K (.ref A20) "name" = some none)
    (ki21 : PySem.W.findIn K (.ref A21) "__init__" = some (some (.ref xf21))) (kt21 : PySem.W.typeIn K (.ref xf21) = some (.type "function")) (kl21 : K.lookup xf21 = some ⟨xoc21, xo21, .func (PySem.W.fnOf "__init__" "NoSpot.__init__" (defArgs xm21) (defBody xm21) (defScope xm21) .none xkV21 xdc21 xpm21 xn21 xcd21 xct21), xs21⟩) (kc21 : PySem.W.codeIn K xcd21 "NoSpot.__init__" = true) (kk21 : PySem.W.keepIn K (.ref xf21) = true)
    (kb21 : xiB K A19 "KeyError.__init__" = true)
    (kf21_spot : PySem.W.findIn K (.ref A21) "spot" = some none)
    (ki22 : PySem.W.findIn K (.ref A22) "__init__" = some (some (.ref xf22))) (kt22 : PySem.W.typeIn K (.ref xf22) = some (.type "function")) (kl22 : K.lookup xf22 = some ⟨xoc22, xo22, .func (PySem.W.fnOf "__init__" "NoLibrary.__init__" (defArgs xm22) (defBody xm22) (defScope xm22) .none xkV22 xdc22 xpm22 xn22 xcd22 xct22), xs22⟩) (kc22 : PySem.W.codeIn K xcd22 "NoLibrary.__init__" = true) (kk22 : PySem.W.keepIn K (.ref xf22) = true)
    (kb22 : xiB K A19 "KeyError.__init__" = true)
    (kf22_lib : PySem.W.findIn K (.ref A22) "lib" = some none)
    (ki23 : PySem.W.findIn K (.ref A23) "__init__" = some (some (.ref xf23))) (kt23 : PySem.W.typeIn K (.ref xf23) = some (.type "function")) (kl23 : K.lookup xf23 = some ⟨xoc23, xo23, .func (PySem.W.fnOf "__init__" "NoHole.__init__" (defArgs xm23) (defBody xm23) (defScope xm23) .none xkV23 xdc23 xpm23 xn23 xcd23 xct23), xs23⟩) (kc23 : PySem.W.codeIn K xcd23 "NoHole.__init__" = true) (kk23 : PySem.W.keepIn K (.ref xf23) = true)
    (kb23 : xiB K A19 "KeyError.__init__" = true)
    (kf23_hole : PySem.W.findIn K (.ref A23) "hole" = some none)
    (ki24 : PySem.W.findIn K (.ref A24) "__init__" = some (some (.ref xf24))) (kt24 : PySem.W.typeIn K (.ref xf24) = some (.type "function")) (kl24 : K.lookup xf24 = some ⟨xoc24, xo24, .func (PySem.W.fnOf "__init__" "NoPicture.__init__" (defArgs xm24) (defBody xm24) (defScope xm24) .none xkV24 xdc24 xpm24 xn24 xcd24 xct24), xs24⟩) (kc24 : PySem.W.codeIn K xcd24 "NoPicture.__init__" = true) (kk24 : PySem.W.keepIn K (.ref xf24) = true)
    (kb24 : xiB K A19 "KeyError.__init__" = true)
    (kf24_n : PySem.W.findIn K (.ref A24) "n" = some none)
    (ki25 : PySem.W.findIn K (.ref A25) "__init__" = some (some (.ref xf25))) (kt25 : PySem.W.typeIn K (.ref xf25) = some (.type "function")) (kl25 : K.lookup xf25 = some ⟨xoc25, xo25, .func (PySem.W.fnOf "__init__" "NoWorth.__init__" (defArgs xm25) (defBody xm25) (defScope xm25) .none xkV25 xdc25 xpm25 xn25 xcd25 xct25), xs25⟩) (kc25 : PySem.W.codeIn K xcd25 "NoWorth.__init__" = true) (kk25 : PySem.W.keepIn K (.ref xf25) = true)
    (kb25 : xiB K A19 "KeyError.__init__" = true)
    (kf25_n : PySem.W.findIn K (.ref A25) "n" = some none)
    (kis_NoText : isTab K (.ref A1) [(A1, true), (A2, false), (A3, false), (A4, false), (A5, false), (A6, false), (A7, false), (A8, false), (A9, false), (A10, false), (A11, false), (A12, false), (A13, false), (A14, false), (A15, false), (A17, false), (A18, false), (A20, false), (A21, false), (A22, false), (A23, false), (A24, false), (A25, false)] = true)
    (kis_NoItem : isTab K (.ref A2) [(A1, false), (A2, true), (A3, false), (A4, false), (A5, false), (A6, false), (A7, false), (A8, false), (A9, false), (A10, false), (A11, false), (A12, false), (A13, false), (A14, false), (A15, false), (A17, false), (A18, false), (A20, false), (A21, false), (A22, false), (A23, false), (A24, false), (A25, false)] = true)
    (kis_NoTerm : isTab K (.ref A3) [(A1, false), (A2, false), (A3, true), (A4, false), (A5, false), (A6, false), (A7, false), (A8, false), (A9, false), (A10, false), (A11, false), (A12, false), (A13, false), (A14, false), (A15, false), (A17, false), (A18, false), (A20, false), (A21, false), (A22, false), (A23, false), (A24, false), (A25, false)] = true)
    (kis_Taken : isTab K (.ref A4) [(A1, false), (A2, false), (A3, false), (A4, true), (A5, false), (A6, false), (A7, false), (A8, false), (A9, false), (A10, false), (A11, false), (A12, false), (A13, false), (A14, false), (A15, false), (A17, false), (A18, false), (A20, false), (A21, false), (A22, false), (A23, false), (A24, false), (A25, false)] = true)
    (kis_Unjudged : isTab K (.ref A5) [(A1, false), (A2, false), (A3, false), (A4, false), (A5, true), (A6, false), (A7, false), (A8, false), (A9, false), (A10, false), (A11, false), (A12, false), (A13, false), (A14, false), (A15, false), (A17, false), (A18, false), (A20, false), (A21, false), (A22, false), (A23, false), (A24, false), (A25, false)] = true)
    (kis_Holds : isTab K (.ref A6) [(A1, false), (A2, false), (A3, false), (A4, false), (A5, false), (A6, true), (A7, false), (A8, false), (A9, false), (A10, false), (A11, false), (A12, false), (A13, false), (A14, false), (A15, false), (A17, false), (A18, false), (A20, false), (A21, false), (A22, false), (A23, false), (A24, false), (A25, false)] = true)
    (kis_NoRow : isTab K (.ref A7) [(A1, false), (A2, false), (A3, false), (A4, false), (A5, false), (A6, false), (A7, true), (A8, false), (A9, false), (A10, false), (A11, false), (A12, false), (A13, false), (A14, false), (A15, false), (A17, false), (A18, false), (A20, false), (A21, false), (A22, false), (A23, false), (A24, false), (A25, false)] = true)
    (kis_NoEnd : isTab K (.ref A8) [(A1, false), (A2, false), (A3, false), (A4, false), (A5, false), (A6, false), (A7, false), (A8, true), (A9, false), (A10, false), (A11, false), (A12, false), (A13, false), (A14, false), (A15, false), (A17, false), (A18, false), (A20, false), (A21, false), (A22, false), (A23, false), (A24, false), (A25, false)] = true)
    (kis_Ring : isTab K (.ref A9) [(A1, false), (A2, false), (A3, false), (A4, false), (A5, false), (A6, false), (A7, false), (A8, false), (A9, true), (A10, false), (A11, false), (A12, false), (A13, false), (A14, false), (A15, false), (A17, false), (A18, false), (A20, false), (A21, false), (A22, false), (A23, false), (A24, false), (A25, false)] = true)
    (kis_Lacks : isTab K (.ref A10) [(A1, false), (A2, false), (A3, false), (A4, false), (A5, false), (A6, false), (A7, false), (A8, false), (A9, false), (A10, true), (A11, false), (A12, false), (A13, false), (A14, false), (A15, false), (A17, false), (A18, false), (A20, false), (A21, false), (A22, false), (A23, false), (A24, false), (A25, false)] = true)
    (kis_Unclear : isTab K (.ref A11) [(A1, false), (A2, false), (A3, false), (A4, false), (A5, false), (A6, false), (A7, false), (A8, false), (A9, false), (A10, false), (A11, true), (A12, false), (A13, false), (A14, false), (A15, false), (A17, false), (A18, false), (A20, false), (A21, false), (A22, false), (A23, false), (A24, false), (A25, false)] = true)
    (kis_Idle : isTab K (.ref A12) [(A1, false), (A2, false), (A3, false), (A4, false), (A5, false), (A6, false), (A7, false), (A8, false), (A9, false), (A10, false), (A11, false), (A12, true), (A13, false), (A14, false), (A15, false), (A17, false), (A18, false), (A20, false), (A21, false), (A22, false), (A23, false), (A24, false), (A25, false)] = true)
    (kis_Broken : isTab K (.ref A13) [(A1, false), (A2, false), (A3, false), (A4, false), (A5, false), (A6, false), (A7, false), (A8, false), (A9, false), (A10, false), (A11, false), (A12, false), (A13, true), (A14, false), (A15, false), (A17, false), (A18, false), (A20, false), (A21, false), (A22, false), (A23, false), (A24, false), (A25, false)] = true)
    (kis_Holed : isTab K (.ref A14) [(A1, false), (A2, false), (A3, false), (A4, false), (A5, false), (A6, false), (A7, false), (A8, false), (A9, false), (A10, false), (A11, false), (A12, false), (A13, false), (A14, true), (A15, false), (A17, false), (A18, false), (A20, false), (A21, false), (A22, false), (A23, false), (A24, false), (A25, false)] = true)
    (kis_NoBack : isTab K (.ref A15) [(A1, false), (A2, false), (A3, false), (A4, false), (A5, false), (A6, false), (A7, false), (A8, false), (A9, false), (A10, false), (A11, false), (A12, false), (A13, false), (A14, false), (A15, true), (A17, false), (A18, false), (A20, false), (A21, false), (A22, false), (A23, false), (A24, false), (A25, false)] = true)
    (kis_TooLong : isTab K (.ref A17) [(A1, false), (A2, false), (A3, false), (A4, false), (A5, false), (A6, false), (A7, false), (A8, false), (A9, false), (A10, false), (A11, false), (A12, false), (A13, false), (A14, false), (A15, false), (A17, true), (A18, false), (A20, false), (A21, false), (A22, false), (A23, false), (A24, false), (A25, false)] = true)
    (kis_TooGreat : isTab K (.ref A18) [(A1, false), (A2, false), (A3, false), (A4, false), (A5, false), (A6, false), (A7, false), (A8, false), (A9, false), (A10, false), (A11, false), (A12, false), (A13, false), (A14, false), (A15, false), (A17, false), (A18, true), (A20, false), (A21, false), (A22, false), (A23, false), (A24, false), (A25, false)] = true)
    (kis_NoName : isTab K (.ref A20) [(A1, false), (A2, false), (A3, false), (A4, false), (A5, false), (A6, false), (A7, false), (A8, false), (A9, false), (A10, false), (A11, false), (A12, false), (A13, false), (A14, false), (A15, false), (A17, false), (A18, false), (A20, true), (A21, false), (A22, false), (A23, false), (A24, false), (A25, false)] = true)
    (kis_NoSpot : isTab K (.ref A21) [(A1, false), (A2, false), (A3, false), (A4, false), (A5, false), (A6, false), (A7, false), (A8, false), (A9, false), (A10, false), (A11, false), (A12, false), (A13, false), (A14, false), (A15, false), (A17, false), (A18, false), (A20, false), (A21, true), (A22, false), (A23, false), (A24, false), (A25, false)] = true)
    (kis_NoLibrary : isTab K (.ref A22) [(A1, false), (A2, false), (A3, false), (A4, false), (A5, false), (A6, false), (A7, false), (A8, false), (A9, false), (A10, false), (A11, false), (A12, false), (A13, false), (A14, false), (A15, false), (A17, false), (A18, false), (A20, false), (A21, false), (A22, true), (A23, false), (A24, false), (A25, false)] = true)
    (kis_NoHole : isTab K (.ref A23) [(A1, false), (A2, false), (A3, false), (A4, false), (A5, false), (A6, false), (A7, false), (A8, false), (A9, false), (A10, false), (A11, false), (A12, false), (A13, false), (A14, false), (A15, false), (A17, false), (A18, false), (A20, false), (A21, false), (A22, false), (A23, true), (A24, false), (A25, false)] = true)
    (kis_NoPicture : isTab K (.ref A24) [(A1, false), (A2, false), (A3, false), (A4, false), (A5, false), (A6, false), (A7, false), (A8, false), (A9, false), (A10, false), (A11, false), (A12, false), (A13, false), (A14, false), (A15, false), (A17, false), (A18, false), (A20, false), (A21, false), (A22, false), (A23, false), (A24, true), (A25, false)] = true)
    (kis_NoWorth : isTab K (.ref A25) [(A1, false), (A2, false), (A3, false), (A4, false), (A5, false), (A6, false), (A7, false), (A8, false), (A9, false), (A10, false), (A11, false), (A12, false), (A13, false), (A14, false), (A15, false), (A17, false), (A18, false), (A20, false), (A21, false), (A22, false), (A23, false), (A24, false), (A25, true)] = true)
    (kis_TooMuch : isTab K (.ref A16) [(A1, false), (A2, false), (A3, false), (A4, false), (A5, false), (A6, false), (A7, false), (A8, false), (A9, false), (A10, false), (A11, false), (A12, false), (A13, false), (A14, false), (A15, false), (A17, true), (A18, true), (A20, false), (A21, false), (A22, false), (A23, false), (A24, false), (A25, false)] = true)
    (kis_TongueError : isTab K (.ref A0) [(A1, true), (A2, true), (A3, true), (A4, true), (A5, true), (A6, true), (A7, true), (A8, true), (A9, true), (A10, true), (A11, true), (A12, true), (A13, true), (A14, true), (A15, true), (A17, true), (A18, true), (A20, false), (A21, false), (A22, false), (A23, false), (A24, false), (A25, false)] = true)
    (kis_ValueError : isTab K (.type "ValueError") [(A1, true), (A2, true), (A3, true), (A4, true), (A5, true), (A6, true), (A7, true), (A8, true), (A9, true), (A10, true), (A11, true), (A12, true), (A13, true), (A14, true), (A15, true), (A17, true), (A18, true), (A20, false), (A21, false), (A22, false), (A23, false), (A24, false), (A25, false)] = true)
    (kis_Absent : isTab K (.ref A19) [(A1, false), (A2, false), (A3, false), (A4, false), (A5, false), (A6, false), (A7, false), (A8, false), (A9, false), (A10, false), (A11, false), (A12, false), (A13, false), (A14, false), (A15, false), (A17, false), (A18, false), (A20, true), (A21, true), (A22, true), (A23, true), (A24, true), (A25, true)] = true)
    (kis_KeyError : isTab K (.type "KeyError") [(A1, false), (A2, false), (A3, false), (A4, false), (A5, false), (A6, false), (A7, false), (A8, false), (A9, false), (A10, false), (A11, false), (A12, false), (A13, false), (A14, false), (A15, false), (A17, false), (A18, false), (A20, true), (A21, true), (A22, true), (A23, true), (A24, true), (A25, true)] = true)
    (zz_KeyError : PySem.W.nsIn K mainGlobals "KeyError" = some none)
    (zz_ValueError : PySem.W.nsIn K mainGlobals "ValueError" = some none)
    (zz_int : PySem.W.nsIn K mainGlobals "int" = some none)
    (zz_isinstance : PySem.W.nsIn K mainGlobals "isinstance" = some none)
    (zz_len : PySem.W.nsIn K mainGlobals "len" = some none)
    (zz_list : PySem.W.nsIn K mainGlobals "list" = some none)
    (zz_range : PySem.W.nsIn K mainGlobals "range" = some none)
    (zz_repr : PySem.W.nsIn K mainGlobals "repr" = some none)
    (zz_str : PySem.W.nsIn K mainGlobals "str" = some none)
    (zz_sum : PySem.W.nsIn K mainGlobals "sum" = some none)
    (zz_tuple : PySem.W.nsIn K mainGlobals "tuple" = some none)
    : ∃ (C : Codes) (GM : FM) (fd : FuncData), (∀ ns : List Int, ns.length ≤ 63 → ∃ st, GM [.scr ns] [] = .ok (.bl true) st) ∧ (∀ q ∈ C.tabs, ∃ p ∈ ([] : List (Addr × Addr)), p.2 = q.1) ∧ (∀ (s : Shared) (v : Value), BindsTo s fd ⟨[v], []⟩ [("script", v)]) ∧
      ∀ base : Heap, K.In base → base.Ns mainGlobals mg → (∀ p ∈ ([] : List (Addr × Addr)), LamX.TabB base mg p.1 p.2) → FnG l.prog w K mg base LV fl fd ["script"] (@spD C ⟨K, mg⟩ 1 GM) := by
  have e := hfa.symm.trans (PySem.W.mg_of X G a11)
  cases e
  letI : Codes := codes
  have D0 := fun_da (ps := ["script"]) X G a0 l0 c0 k0 fun _ _ _ _ _ _ us hl => match us, hl with | [_], _ => rfl
  have D1 := fun_da (ps := ["deck", "ways"]) X G a1 l1 c1 k1 fun _ _ _ _ _ _ us hl => match us, hl with | [_, _], _ => rfl
  have D2 := fun_da (ps := ["deck"]) X G a2 l2 c2 k2 fun _ _ _ _ _ _ us hl => match us, hl with | [_], _ => rfl
  have D3 := fun_da (ps := ["deck"]) X G a3 l3 c3 k3 fun _ _ _ _ _ _ us hl => match us, hl with | [_], _ => rfl
  have D4 := fun_da (ps := ["deck"]) X G a4 l4 c4 k4 fun _ _ _ _ _ _ us hl => match us, hl with | [_], _ => rfl
  have D5 := fun_da (ps := ["e"]) X G a5 l5 c5 k5 fun _ _ _ _ _ _ us hl => match us, hl with | [_], _ => rfl
  have D6 := fun_da (ps := ["k", "one", "two"]) X G a6 l6 c6 k6 fun _ _ _ _ _ _ us hl => match us, hl with | [_, _, _], _ => rfl
  have D7 := fun_da (ps := ["k", "one"]) X G a7 l7 c7 k7 fun _ _ _ _ _ _ us hl => match us, hl with | [_, _], _ => rfl
  have D8 := fun_da (ps := ["k", "e"]) X G a8 l8 c8 k8 fun _ _ _ _ _ _ us hl => match us, hl with | [_, _], _ => rfl
  have D9 := fun_da (ps := ["deck", "k"]) X G a9 l9 c9 k9 fun _ _ _ _ _ _ us hl => match us, hl with | [_, _], _ => rfl
  have D10 := fun_da (ps := ["k"]) X G a10 l10 c10 k10 fun _ _ _ _ _ _ us hl => match us, hl with | [_], _ => rfl
  have D11 := fun_da (ps := ["script"]) X G a11 l11 c11 k11 fun _ _ _ _ _ _ us hl => match us, hl with | [_], _ => rfl
  refine ⟨codes, run LV 11, PySem.W.fnOf "law" "law" (defArgs s11) (defBody s11) (defScope s11) .none kV11 dc11 pm11 an11 cd11 ct11, law_true, (fun q hq => nomatch (show q ∈ ([] : List _) from hq)), fun s v => .of_eq rfl, fun base _ _ TB => ?_⟩
  have XF4 := fun_mk kl4 kc4 kk4
  have XB4 : Binds K _ ["self", "name"] [] := binds_by XF4 fun _ _ _ _ _ _ us hl => match us, hl with | [_, _], _ => rfl
  have XF5 := fun_mk kl5 kc5 kk5
  have XB5 : Binds K _ ["self", "spot", "word"] [] := binds_by XF5 fun _ _ _ _ _ _ us hl => match us, hl with | [_, _, _], _ => rfl
  have XF6 := fun_mk kl6 kc6 kk6
  have XB6 : Binds K _ ["self", "shape", "k"] [] := binds_by XF6 fun _ _ _ _ _ _ us hl => match us, hl with | [_, _, _], _ => rfl
  have XF7 := fun_mk kl7 kc7 kk7
  have XB7 : Binds K _ ["self", "row", "word"] [] := binds_by XF7 fun _ _ _ _ _ _ us hl => match us, hl with | [_, _, _], _ => rfl
  have XF8 := fun_mk kl8 kc8 kk8
  have XB8 : Binds K _ ["self", "name", "row"] [] := binds_by XF8 fun _ _ _ _ _ _ us hl => match us, hl with | [_, _, _], _ => rfl
  have XF9 := fun_mk kl9 kc9 kk9
  have XB9 : Binds K _ ["self", "names"] [] := binds_by XF9 fun _ _ _ _ _ _ us hl => match us, hl with | [_, _], _ => rfl
  have XF10 := fun_mk kl10 kc10 kk10
  have XB10 : Binds K _ ["self", "name", "arguments"] [] := binds_by XF10 fun _ _ _ _ _ _ us hl => match us, hl with | [_, _, _], _ => rfl
  have XF11 := fun_mk kl11 kc11 kk11
  have XB11 : Binds K _ ["self", "name"] [] := binds_by XF11 fun _ _ _ _ _ _ us hl => match us, hl with | [_, _], _ => rfl
  have XF12 := fun_mk kl12 kc12 kk12
  have XB12 : Binds K _ ["self", "name", "row"] [] := binds_by XF12 fun _ _ _ _ _ _ us hl => match us, hl with | [_, _, _], _ => rfl
  have XF13 := fun_mk kl13 kc13 kk13
  have XB13 : Binds K _ ["self", "name"] [] := binds_by XF13 fun _ _ _ _ _ _ us hl => match us, hl with | [_, _], _ => rfl
  have XF14 := fun_mk kl14 kc14 kk14
  have XB14 : Binds K _ ["self", "name"] [] := binds_by XF14 fun _ _ _ _ _ _ us hl => match us, hl with | [_, _], _ => rfl
  have XF15 := fun_mk kl15 kc15 kk15
  have XB15 : Binds K _ ["self", "many"] [] := binds_by XF15 fun _ _ _ _ _ _ us hl => match us, hl with | [_, _], _ => rfl
  have XF17 := fun_mk kl17 kc17 kk17
  have XB17 : Binds K _ ["self", "most"] [] := binds_by XF17 fun _ _ _ _ _ _ us hl => match us, hl with | [_, _], _ => rfl
  have XF18 := fun_mk kl18 kc18 kk18
  have XB18 : Binds K _ ["self", "size"] [] := binds_by XF18 fun _ _ _ _ _ _ us hl => match us, hl with | [_, _], _ => rfl
  have XF20 := fun_mk kl20 kc20 kk20
  have XB20 : Binds K _ ["self", "name"] [] := binds_by XF20 fun _ _ _ _ _ _ us hl => match us, hl with | [_, _], _ => rfl
  have XF21 := fun_mk kl21 kc21 kk21
  have XB21 : Binds K _ ["self", "spot"] [] := binds_by XF21 fun _ _ _ _ _ _ us hl => match us, hl with | [_, _], _ => rfl
  have XF22 := fun_mk kl22 kc22 kk22
  have XB22 : Binds K _ ["self", "lib"] [] := binds_by XF22 fun _ _ _ _ _ _ us hl => match us, hl with | [_, _], _ => rfl
  have XF23 := fun_mk kl23 kc23 kk23
  have XB23 : Binds K _ ["self", "hole"] [] := binds_by XF23 fun _ _ _ _ _ _ us hl => match us, hl with | [_, _], _ => rfl
  have XF24 := fun_mk kl24 kc24 kk24
  have XB24 : Binds K _ ["self", "n"] [] := binds_by XF24 fun _ _ _ _ _ _ us hl => match us, hl with | [_, _], _ => rfl
  have XF25 := fun_mk kl25 kc25 kk25
  have XB25 : Binds K _ ["self", "n"] [] := binds_by XF25 fun _ _ _ _ _ _ us hl => match us, hl with | [_, _], _ => rfl
  have XX0 : XCls K mg PySem.HandSPX.veTail "ValueError.__new__" "ValueError.__init__" "TongueError" A0 := xcl_ok X G ka0 kx0
  have XX1 : XCls K mg PySem.HandSPX.veTail "ValueError.__new__" "ValueError.__init__" "NoText" A1 := xcl_ok X G ka1 kx1
  have XX2 : XCls K mg PySem.HandSPX.veTail "ValueError.__new__" "ValueError.__init__" "NoItem" A2 := xcl_ok X G ka2 kx2
  have XX3 : XCls K mg PySem.HandSPX.veTail "ValueError.__new__" "ValueError.__init__" "NoTerm" A3 := xcl_ok X G ka3 kx3
  have XX4 : XCls K mg PySem.HandSPX.veTail "ValueError.__new__" "ValueError.__init__" "Taken" A4 := xcl_ok X G ka4 kx4
  have XX5 : XCls K mg PySem.HandSPX.veTail "ValueError.__new__" "ValueError.__init__" "Unjudged" A5 := xcl_ok X G ka5 kx5
  have XX6 : XCls K mg PySem.HandSPX.veTail "ValueError.__new__" "ValueError.__init__" "Holds" A6 := xcl_ok X G ka6 kx6
  have XX7 : XCls K mg PySem.HandSPX.veTail "ValueError.__new__" "ValueError.__init__" "NoRow" A7 := xcl_ok X G ka7 kx7
  have XX8 : XCls K mg PySem.HandSPX.veTail "ValueError.__new__" "ValueError.__init__" "NoEnd" A8 := xcl_ok X G ka8 kx8
  have XX9 : XCls K mg PySem.HandSPX.veTail "ValueError.__new__" "ValueError.__init__" "Ring" A9 := xcl_ok X G ka9 kx9
  have XX10 : XCls K mg PySem.HandSPX.veTail "ValueError.__new__" "ValueError.__init__" "Lacks" A10 := xcl_ok X G ka10 kx10
  have XX11 : XCls K mg PySem.HandSPX.veTail "ValueError.__new__" "ValueError.__init__" "Unclear" A11 := xcl_ok X G ka11 kx11
  have XX12 : XCls K mg PySem.HandSPX.veTail "ValueError.__new__" "ValueError.__init__" "Idle" A12 := xcl_ok X G ka12 kx12
  have XX13 : XCls K mg PySem.HandSPX.veTail "ValueError.__new__" "ValueError.__init__" "Broken" A13 := xcl_ok X G ka13 kx13
  have XX14 : XCls K mg PySem.HandSPX.veTail "ValueError.__new__" "ValueError.__init__" "Holed" A14 := xcl_ok X G ka14 kx14
  have XX15 : XCls K mg PySem.HandSPX.veTail "ValueError.__new__" "ValueError.__init__" "NoBack" A15 := xcl_ok X G ka15 kx15
  have XX16 : XCls K mg PySem.HandSPX.veTail "ValueError.__new__" "ValueError.__init__" "TooMuch" A16 := xcl_ok X G ka16 kx16
  have XX17 : XCls K mg PySem.HandSPX.veTail "ValueError.__new__" "ValueError.__init__" "TooLong" A17 := xcl_ok X G ka17 kx17
  have XX18 : XCls K mg PySem.HandSPX.veTail "ValueError.__new__" "ValueError.__init__" "TooGreat" A18 := xcl_ok X G ka18 kx18
  have XX19 : XCls K mg Px.keTail "LookupError.__new__" "KeyError.__init__" "Absent" A19 := xcl_ok X G ka19 kx19
  have XX20 : XCls K mg Px.keTail "LookupError.__new__" "KeyError.__init__" "NoName" A20 := xcl_ok X G ka20 kx20
  have XX21 : XCls K mg Px.keTail "LookupError.__new__" "KeyError.__init__" "NoSpot" A21 := xcl_ok X G ka21 kx21
  have XX22 : XCls K mg Px.keTail "LookupError.__new__" "KeyError.__init__" "NoLibrary" A22 := xcl_ok X G ka22 kx22
  have XX23 : XCls K mg Px.keTail "LookupError.__new__" "KeyError.__init__" "NoHole" A23 := xcl_ok X G ka23 kx23
  have XX24 : XCls K mg Px.keTail "LookupError.__new__" "KeyError.__init__" "NoPicture" A24 := xcl_ok X G ka24 kx24
  have XX25 : XCls K mg Px.keTail "LookupError.__new__" "KeyError.__init__" "NoWorth" A25 := xcl_ok X G ka25 kx25
  have XK : ∀ p ∈ ([("NoText", A1), ("NoItem", A2), ("NoTerm", A3), ("Taken", A4), ("Unjudged", A5), ("Holds", A6), ("NoRow", A7), ("NoEnd", A8), ("Ring", A9), ("Lacks", A10), ("Unclear", A11), ("Idle", A12), ("Broken", A13), ("Holed", A14), ("NoBack", A15), ("TooLong", A17), ("TooGreat", A18), ("NoName", A20), ("NoSpot", A21), ("NoLibrary", A22), ("NoHole", A23), ("NoPicture", A24), ("NoWorth", A25)] : List (Str × Addr)), XKnown K mg p.1 p.2 := xk_cons XX1 (xk_cons XX2 (xk_cons XX3 (xk_cons XX4 (xk_cons XX5 (xk_cons XX6 (xk_cons XX7 (xk_cons XX8 (xk_cons XX9 (xk_cons XX10 (xk_cons XX11 (xk_cons XX12 (xk_cons XX13 (xk_cons XX14 (xk_cons XX15 (xk_cons XX17 (xk_cons XX18 (xk_cons XX20 (xk_cons XX21 (xk_cons XX22 (xk_cons XX23 (xk_cons XX24 (xk_cons XX25 (xk_nil)))))))))))))))))))))))
  have M : Mod K mg (fun i => match i with | 0 => f0 | 1 => f1 | 2 => f2 | 3 => f3 | 4 => f4 | 5 => f5 | 6 => f6 | 7 => f7 | 8 => f8 | 9 => f9 | 10 => f10 | 11 => fl | _ => 0) (fun i => match i with | 0 => PySem.W.fnOf "_law_deck" "_law_deck" (defArgs s0) (defBody s0) (defScope s0) .none kV0 dc0 pm0 an0 cd0 ct0 | 1 => PySem.W.fnOf "_law_draw" "_law_draw" (defArgs s1) (defBody s1) (defScope s1) .none kV1 dc1 pm1 an1 cd1 ct1 | 2 => PySem.W.fnOf "_law_name" "_law_name" (defArgs s2) (defBody s2) (defScope s2) .none kV2 dc2 pm2 an2 cd2 ct2 | 3 => PySem.W.fnOf "_law_far" "_law_far" (defArgs s3) (defBody s3) (defScope s3) .none kV3 dc3 pm3 an3 cd3 ct3 | 4 => PySem.W.fnOf "_law_called" "_law_called" (defArgs s4) (defBody s4) (defScope s4) .none kV4 dc4 pm4 an4 cd4 ct4 | 5 => PySem.W.fnOf "_law_marks" "_law_marks" (defArgs s5) (defBody s5) (defScope s5) .none kV5 dc5 pm5 an5 cd5 ct5 | 6 => PySem.W.fnOf "_law_made" "_law_made" (defArgs s6) (defBody s6) (defScope s6) .none kV6 dc6 pm6 an6 cd6 ct6 | 7 => PySem.W.fnOf "_law_made_further" "_law_made_further" (defArgs s7) (defBody s7) (defScope s7) .none kV7 dc7 pm7 an7 cd7 ct7 | 8 => PySem.W.fnOf "_law_fields" "_law_fields" (defArgs s8) (defBody s8) (defScope s8) .none kV8 dc8 pm8 an8 cd8 ct8 | 9 => PySem.W.fnOf "_law_things" "_law_things" (defArgs s9) (defBody s9) (defScope s9) .none kV9 dc9 pm9 an9 cd9 ct9 | 10 => PySem.W.fnOf "_law_due_marks" "_law_due_marks" (defArgs s10) (defBody s10) (defScope s10) .none kV10 dc10 pm10 an10 cd10 ct10 | 11 => PySem.W.fnOf "law" "law" (defArgs s11) (defBody s11) (defScope s11) .none kV11 dc11 pm11 an11 cd11 ct11 | _ => PySem.W.fnOf "law" "law" (defArgs s11) (defBody s11) (defScope s11) .none kV11 dc11 pm11 an11 cd11 ct11) (fun i => match i with | 0 => A0 | 1 => A1 | 2 => A2 | 3 => A3 | 4 => A4 | 5 => A5 | 6 => A6 | 7 => A7 | 8 => A8 | 9 => A9 | 10 => A10 | 11 => A11 | 12 => A12 | 13 => A13 | 14 => A14 | 15 => A15 | 16 => A16 | 17 => A17 | 18 => A18 | 19 => A19 | 20 => A20 | 21 => A21 | 22 => A22 | 23 => A23 | 24 => A24 | 25 => A25 | _ => 0) (fun i => match i with | 4 => xf4 | 5 => xf5 | 6 => xf6 | 7 => xf7 | 8 => xf8 | 9 => xf9 | 10 => xf10 | 11 => xf11 | 12 => xf12 | 13 => xf13 | 14 => xf14 | 15 => xf15 | 17 => xf17 | 18 => xf18 | 20 => xf20 | 21 => xf21 | 22 => xf22 | 23 => xf23 | 24 => xf24 | 25 => xf25 | _ => 0) (fun i => match i with | 4 => PySem.W.fnOf "__init__" "Taken.__init__" (defArgs xm4) (defBody xm4) (defScope xm4) .none xkV4 xdc4 xpm4 xn4 xcd4 xct4 | 5 => PySem.W.fnOf "__init__" "Unjudged.__init__" (defArgs xm5) (defBody xm5) (defScope xm5) .none xkV5 xdc5 xpm5 xn5 xcd5 xct5 | 6 => PySem.W.fnOf "__init__" "Holds.__init__" (defArgs xm6) (defBody xm6) (defScope xm6) .none xkV6 xdc6 xpm6 xn6 xcd6 xct6 | 7 => PySem.W.fnOf "__init__" "NoRow.__init__" (defArgs xm7) (defBody xm7) (defScope xm7) .none xkV7 xdc7 xpm7 xn7 xcd7 xct7 | 8 => PySem.W.fnOf "__init__" "NoEnd.__init__" (defArgs xm8) (defBody xm8) (defScope xm8) .none xkV8 xdc8 xpm8 xn8 xcd8 xct8 | 9 => PySem.W.fnOf "__init__" "Ring.__init__" (defArgs xm9) (defBody xm9) (defScope xm9) .none xkV9 xdc9 xpm9 xn9 xcd9 xct9 | 10 => PySem.W.fnOf "__init__" "Lacks.__init__" (defArgs xm10) (defBody xm10) (defScope xm10) .none xkV10 xdc10 xpm10 xn10 xcd10 xct10 | 11 => PySem.W.fnOf "__init__" "Unclear.__init__" (defArgs xm11) (defBody xm11) (defScope xm11) .none xkV11 xdc11 xpm11 xn11 xcd11 xct11 | 12 => PySem.W.fnOf "__init__" "Idle.__init__" (defArgs xm12) (defBody xm12) (defScope xm12) .none xkV12 xdc12 xpm12 xn12 xcd12 xct12 | 13 => PySem.W.fnOf "__init__" "Broken.__init__" (defArgs xm13) (defBody xm13) (defScope xm13) .none xkV13 xdc13 xpm13 xn13 xcd13 xct13 | 14 => PySem.W.fnOf "__init__" "Holed.__init__" (defArgs xm14) (defBody xm14) (defScope xm14) .none xkV14 xdc14 xpm14 xn14 xcd14 xct14 | 15 => PySem.W.fnOf "__init__" "NoBack.__init__" (defArgs xm15) (defBody xm15) (defScope xm15) .none xkV15 xdc15 xpm15 xn15 xcd15 xct15 | 17 => PySem.W.fnOf "__init__" "TooLong.__init__" (defArgs xm17) (defBody xm17) (defScope xm17) .none xkV17 xdc17 xpm17 xn17 xcd17 xct17 | 18 => PySem.W.fnOf "__init__" "TooGreat.__init__" (defArgs xm18) (defBody xm18) (defScope xm18) .none xkV18 xdc18 xpm18 xn18 xcd18 xct18 | 20 => PySem.W.fnOf "__init__" "NoName.__init__" (defArgs xm20) (defBody xm20) (defScope xm20) .none xkV20 xdc20 xpm20 xn20 xcd20 xct20 | 21 => PySem.W.fnOf "__init__" "NoSpot.__init__" (defArgs xm21) (defBody xm21) (defScope xm21) .none xkV21 xdc21 xpm21 xn21 xcd21 xct21 | 22 => PySem.W.fnOf "__init__" "NoLibrary.__init__" (defArgs xm22) (defBody xm22) (defScope xm22) .none xkV22 xdc22 xpm22 xn22 xcd22 xct22 | 23 => PySem.W.fnOf "__init__" "NoHole.__init__" (defArgs xm23) (defBody xm23) (defScope xm23) .none xkV23 xdc23 xpm23 xn23 xcd23 xct23 | 24 => PySem.W.fnOf "__init__" "NoPicture.__init__" (defArgs xm24) (defBody xm24) (defScope xm24) .none xkV24 xdc24 xpm24 xn24 xcd24 xct24 | 25 => PySem.W.fnOf "__init__" "NoWorth.__init__" (defArgs xm25) (defBody xm25) (defScope xm25) .none xkV25 xdc25 xpm25 xn25 xcd25 xct25 | _ => PySem.W.fnOf "law" "law" (defArgs s11) (defBody s11) (defScope s11) .none kV11 dc11 pm11 an11 cd11 ct11) := { d0 := D0, d1 := D1, d2 := D2, d3 := D3, d4 := D4, d5 := D5, d6 := D6, d7 := D7, d8 := D8, d9 := D9, d10 := D10, d11 := D11, z_KeyError := PySem.W.mg_none_of X G zz_KeyError, z_ValueError := PySem.W.mg_none_of X G zz_ValueError, z_int := PySem.W.mg_none_of X G zz_int, z_isinstance := PySem.W.mg_none_of X G zz_isinstance, z_len := PySem.W.mg_none_of X G zz_len, z_list := PySem.W.mg_none_of X G zz_list, z_range := PySem.W.mg_none_of X G zz_range, z_repr := PySem.W.mg_none_of X G zz_repr, z_str := PySem.W.mg_none_of X G zz_str, z_sum := PySem.W.mg_none_of X G zz_sum, z_tuple := PySem.W.mg_none_of X G zz_tuple, x0 := XX0, x1 := XX1, e1 := ke1, x2 := XX2, e2 := ke2, x3 := XX3, e3 := ke3, x4 := XX4, i4 := ki4, t4 := kt4, F4 := XF4, n4 := XB4, b4 := xi_ok X G ka0 kb4, f4_name := kf4_name, x5 := XX5, i5 := ki5, t5 := kt5, F5 := XF5, n5 := XB5, b5 := xi_ok X G ka0 kb5, f5_spot := kf5_spot, f5_word := kf5_word, x6 := XX6, i6 := ki6, t6 := kt6, F6 := XF6, n6 := XB6, b6 := xi_ok X G ka0 kb6, f6_shape := kf6_shape, f6_k := kf6_k, x7 := XX7, i7 := ki7, t7 := kt7, F7 := XF7, n7 := XB7, b7 := xi_ok X G ka0 kb7, f7_row := kf7_row, f7_word := kf7_word, x8 := XX8, i8 := ki8, t8 := kt8, F8 := XF8, n8 := XB8, b8 := xi_ok X G ka0 kb8, f8_name := kf8_name, f8_row := kf8_row, x9 := XX9, i9 := ki9, t9 := kt9, F9 := XF9, n9 := XB9, b9 := xi_ok X G ka0 kb9, f9_names := kf9_names, x10 := XX10, i10 := ki10, t10 := kt10, F10 := XF10, n10 := XB10, b10 := xi_ok X G ka0 kb10, f10_name := kf10_name, f10_arguments := kf10_arguments, x11 := XX11, i11 := ki11, t11 := kt11, F11 := XF11, n11 := XB11, b11 := xi_ok X G ka0 kb11, f11_name := kf11_name, x12 := XX12, i12 := ki12, t12 := kt12, F12 := XF12, n12 := XB12, b12 := xi_ok X G ka0 kb12, f12_name := kf12_name, f12_row := kf12_row, x13 := XX13, i13 := ki13, t13 := kt13, F13 := XF13, n13 := XB13, b13 := xi_ok X G ka0 kb13, f13_name := kf13_name, x14 := XX14, i14 := ki14, t14 := kt14, F14 := XF14, n14 := XB14, b14 := xi_ok X G ka0 kb14, f14_name := kf14_name, x15 := XX15, i15 := ki15, t15 := kt15, F15 := XF15, n15 := XB15, b15 := xi_ok X G ka0 kb15, f15_many := kf15_many, x16 := XX16, x17 := XX17, i17 := ki17, t17 := kt17, F17 := XF17, n17 := XB17, b17 := xi_ok X G ka16 kb17, f17_most := kf17_most, x18 := XX18, i18 := ki18, t18 := kt18, F18 := XF18, n18 := XB18, b18 := xi_ok X G ka16 kb18, f18_size := kf18_size, x19 := XX19, x20 := XX20, i20 := ki20, t20 := kt20, F20 := XF20, n20 := XB20, b20 := xi_ok X G ka19 kb20, f20_name := kf20_name, x21 := XX21, i21 := ki21, t21 := kt21, F21 := XF21, n21 := XB21, b21 := xi_ok X G ka19 kb21, f21_spot := kf21_spot, x22 := XX22, i22 := ki22, t22 := kt22, F22 := XF22, n22 := XB22, b22 := xi_ok X G ka19 kb22, f22_lib := kf22_lib, x23 := XX23, i23 := ki23, t23 := kt23, F23 := XF23, n23 := XB23, b23 := xi_ok X G ka19 kb23, f23_hole := kf23_hole, x24 := XX24, i24 := ki24, t24 := kt24, F24 := XF24, n24 := XB24, b24 := xi_ok X G ka19 kb24, f24_n := kf24_n, x25 := XX25, i25 := ki25, t25 := kt25, F25 := XF25, n25 := XB25, b25 := xi_ok X G ka19 kb25, f25_n := kf25_n, s_NoText := isAll_tab (l := [("NoText", A1), ("NoItem", A2), ("NoTerm", A3), ("Taken", A4), ("Unjudged", A5), ("Holds", A6), ("NoRow", A7), ("NoEnd", A8), ("Ring", A9), ("Lacks", A10), ("Unclear", A11), ("Idle", A12), ("Broken", A13), ("Holed", A14), ("NoBack", A15), ("TooLong", A17), ("TooGreat", A18), ("NoName", A20), ("NoSpot", A21), ("NoLibrary", A22), ("NoHole", A23), ("NoPicture", A24), ("NoWorth", A25)]) (bs := [true, false, false, false, false, false, false, false, false, false, false, false, false, false, false, false, false, false, false, false, false, false, false]) XK kis_NoText rfl, s_NoItem := isAll_tab (l := [("NoText", A1), ("NoItem", A2), ("NoTerm", A3), ("Taken", A4), ("Unjudged", A5), ("Holds", A6), ("NoRow", A7), ("NoEnd", A8), ("Ring", A9), ("Lacks", A10), ("Unclear", A11), ("Idle", A12), ("Broken", A13), ("Holed", A14), ("NoBack", A15), ("TooLong", A17), ("TooGreat", A18), ("NoName", A20), ("NoSpot", A21), ("NoLibrary", A22), ("NoHole", A23), ("NoPicture", A24), ("NoWorth", A25)]) (bs := [false, true, false, false, false, false, false, false, false, false, false, false, false, false, false, false, false, false, false, false, false, false, false]) XK kis_NoItem rfl, s_NoTerm := isAll_tab (l := [("NoText", A1), ("NoItem", A2), ("NoTerm", A3), ("Taken", A4), ("Unjudged", A5), ("Holds", A6), ("NoRow", A7), ("NoEnd", A8), ("Ring", A9), ("Lacks", A10), ("Unclear", A11), ("Idle", A12), ("Broken", A13), ("Holed", A14), ("NoBack", A15), ("TooLong", A17), ("TooGreat", A18), ("NoName", A20), ("NoSpot", A21), ("NoLibrary", A22), ("NoHole", A23), ("NoPicture", A24), ("NoWorth", A25)]) (bs := [false, false, true, false, false, false, false, false, false, false, false, false, false, false, false, false, false, false, false, false, false, false, false]) XK kis_NoTerm rfl, s_Taken := isAll_tab (l := [("NoText", A1), ("NoItem", A2), ("NoTerm", A3), ("Taken", A4), ("Unjudged", A5), ("Holds", A6), ("NoRow", A7), ("NoEnd", A8), ("Ring", A9), ("Lacks", A10), ("Unclear", A11), ("Idle", A12), ("Broken", A13), ("Holed", A14), ("NoBack", A15), ("TooLong", A17), ("TooGreat", A18), ("NoName", A20), ("NoSpot", A21), ("NoLibrary", A22), ("NoHole", A23), ("NoPicture", A24), ("NoWorth", A25)]) (bs := [false, false, false, true, false, false, false, false, false, false, false, false, false, false, false, false, false, false, false, false, false, false, false]) XK kis_Taken rfl, s_Unjudged := isAll_tab (l := [("NoText", A1), ("NoItem", A2), ("NoTerm", A3), ("Taken", A4), ("Unjudged", A5), ("Holds", A6), ("NoRow", A7), ("NoEnd", A8), ("Ring", A9), ("Lacks", A10), ("Unclear", A11), ("Idle", A12), ("Broken", A13), ("Holed", A14), ("NoBack", A15), ("TooLong", A17), ("TooGreat", A18), ("NoName", A20), ("NoSpot", A21), ("NoLibrary", A22), ("NoHole", A23), ("NoPicture", A24), ("NoWorth", A25)]) (bs := [false, false, false, false, true, false, false, false, false, false, false, false, false, false, false, false, false, false, false, false, false, false, false]) XK kis_Unjudged rfl, s_Holds := isAll_tab (l := [("NoText", A1), ("NoItem", A2), ("NoTerm", A3), ("Taken", A4), ("Unjudged", A5), ("Holds", A6), ("NoRow", A7), ("NoEnd", A8), ("Ring", A9), ("Lacks", A10), ("Unclear", A11), ("Idle", A12), ("Broken", A13), ("Holed", A14), ("NoBack", A15), ("TooLong", A17), ("TooGreat", A18), ("NoName", A20), ("NoSpot", A21), ("NoLibrary", A22), ("NoHole", A23), ("NoPicture", A24), ("NoWorth", A25)]) (bs := [false, false, false, false, false, true, false, false, false, false, false, false, false, false, false, false, false, false, false, false, false, false, false]) XK kis_Holds rfl, s_NoRow := isAll_tab (l := [("NoText", A1), ("NoItem", A2), ("NoTerm", A3), ("Taken", A4), ("Unjudged", A5), ("Holds", A6), ("NoRow", A7), ("NoEnd", A8), ("Ring", A9), ("Lacks", A10), ("Unclear", A11), ("Idle", A12), ("Broken", A13), ("Holed", A14), ("NoBack", A15), ("TooLong", A17), ("TooGreat", A18), ("NoName", A20), ("NoSpot", A21), ("NoLibrary", A22), ("NoHole", A23), ("NoPicture", A24), ("NoWorth", A25)]) (bs := [false, false, false, false, false, false, true, false, false, false, false, false, false, false, false, false, false, false, false, false, false, false, false]) XK kis_NoRow rfl, s_NoEnd := isAll_tab (l := [("NoText", A1), ("NoItem", A2), ("NoTerm", A3), ("Taken", A4), ("Unjudged", A5), ("Holds", A6), ("NoRow", A7), ("NoEnd", A8), ("Ring", A9), ("Lacks", A10), ("Unclear", A11), ("Idle", A12), ("Broken", A13), ("Holed", A14), ("NoBack", A15), ("TooLong", A17), ("TooGreat", A18), ("NoName", A20), ("NoSpot", A21), ("NoLibrary", A22), ("NoHole", A23), ("NoPicture", A24), ("NoWorth", A25)]) (bs := [false, false, false, false, false, false, false, true, false, false, false, false, false, false, false, false, false, false, false, false, false, false, false]) XK kis_NoEnd rfl, s_Ring := isAll_tab (l := [("NoText", A1), ("NoItem", A2), ("NoTerm", A3), ("Taken", A4), ("Unjudged", A5), ("Holds", A6), ("NoRow", A7), ("NoEnd", A8), ("Ring", A9), ("Lacks", A10), ("Unclear", A11), ("Idle", A12), ("Broken", A13), ("Holed", A14), ("NoBack", A15), ("TooLong", A17), ("TooGreat", A18), ("NoName", A20), ("NoSpot", A21), ("NoLibrary", A22), ("NoHole", A23), ("NoPicture", A24), ("NoWorth", A25)]) (bs := [false, false, false, false, false, false, false, false, true, false, false, false, false, false, false, false, false, false, false, false, false, false, false]) XK kis_Ring rfl, s_Lacks := isAll_tab (l := [("NoText", A1), ("NoItem", A2), ("NoTerm", A3), ("Taken", A4), ("Unjudged", A5), ("Holds", A6), ("NoRow", A7), ("NoEnd", A8), ("Ring", A9), ("Lacks", A10), ("Unclear", A11), ("Idle", A12), ("Broken", A13), ("Holed", A14), ("NoBack", A15), ("TooLong", A17), ("TooGreat", A18), ("NoName", A20), ("NoSpot", A21), ("NoLibrary", A22), ("NoHole", A23), ("NoPicture", A24), ("NoWorth", A25)]) (bs := [false, false, false, false, false, false, false, false, false, true, false, false, false, false, false, false, false, false, false, false, false, false, false]) XK kis_Lacks rfl, s_Unclear := isAll_tab (l := [("NoText", A1), ("NoItem", A2), ("NoTerm", A3), ("Taken", A4), ("Unjudged", A5), ("Holds", A6), ("NoRow", A7), ("NoEnd", A8), ("Ring", A9), ("Lacks", A10), ("Unclear", A11), ("Idle", A12), ("Broken", A13), ("Holed", A14), ("NoBack", A15), ("TooLong", A17), ("TooGreat", A18), ("NoName", A20), ("NoSpot", A21), ("NoLibrary", A22), ("NoHole", A23), ("NoPicture", A24), ("NoWorth", A25)]) (bs := [false, false, false, false, false, false, false, false, false, false, true, false, false, false, false, false, false, false, false, false, false, false, false]) XK kis_Unclear rfl, s_Idle := isAll_tab (l := [("NoText", A1), ("NoItem", A2), ("NoTerm", A3), ("Taken", A4), ("Unjudged", A5), ("Holds", A6), ("NoRow", A7), ("NoEnd", A8), ("Ring", A9), ("Lacks", A10), ("Unclear", A11), ("Idle", A12), ("Broken", A13), ("Holed", A14), ("NoBack", A15), ("TooLong", A17), ("TooGreat", A18), ("NoName", A20), ("NoSpot", A21), ("NoLibrary", A22), ("NoHole", A23), ("NoPicture", A24), ("NoWorth", A25)]) (bs := [false, false, false, false, false, false, false, false, false, false, false, true, false, false, false, false, false, false, false, false, false, false, false]) XK kis_Idle rfl, s_Broken := isAll_tab (l := [("NoText", A1), ("NoItem", A2), ("NoTerm", A3), ("Taken", A4), ("Unjudged", A5), ("Holds", A6), ("NoRow", A7), ("NoEnd", A8), ("Ring", A9), ("Lacks", A10), ("Unclear", A11), ("Idle", A12), ("Broken", A13), ("Holed", A14), ("NoBack", A15), ("TooLong", A17), ("TooGreat", A18), ("NoName", A20), ("NoSpot", A21), ("NoLibrary", A22), ("NoHole", A23), ("NoPicture", A24), ("NoWorth", A25)]) (bs := [false, false, false, false, false, false, false, false, false, false, false, false, true, false, false, false, false, false, false, false, false, false, false]) XK kis_Broken rfl, s_Holed := isAll_tab (l := [("NoText", A1), ("NoItem", A2), ("NoTerm", A3), ("Taken", A4), ("Unjudged", A5), ("Holds", A6), ("NoRow", A7), ("NoEnd", A8), ("Ring", A9), ("Lacks", A10), ("Unclear", A11), ("Idle", A12), ("Broken", A13), ("Holed", A14), ("NoBack", A15), ("TooLong", A17), ("TooGreat", A18), ("NoName", A20), ("NoSpot", A21), ("NoLibrary", A22), ("NoHole", A23), ("NoPicture", A24), ("NoWorth", A25)]) (bs := [false, false, false, false, false, false, false, false, false, false, false, false, false, true, false, false, false, false, false, false, false, false, false]) XK kis_Holed rfl, s_NoBack := isAll_tab (l := [("NoText", A1), ("NoItem", A2), ("NoTerm", A3), ("Taken", A4), ("Unjudged", A5), ("Holds", A6), ("NoRow", A7), ("NoEnd", A8), ("Ring", A9), ("Lacks", A10), ("Unclear", A11), ("Idle", A12), ("Broken", A13), ("Holed", A14), ("NoBack", A15), ("TooLong", A17), ("TooGreat", A18), ("NoName", A20), ("NoSpot", A21), ("NoLibrary", A22), ("NoHole", A23), ("NoPicture", A24), ("NoWorth", A25)]) (bs := [false, false, false, false, false, false, false, false, false, false, false, false, false, false, true, false, false, false, false, false, false, false, false]) XK kis_NoBack rfl, s_TooLong := isAll_tab (l := [("NoText", A1), ("NoItem", A2), ("NoTerm", A3), ("Taken", A4), ("Unjudged", A5), ("Holds", A6), ("NoRow", A7), ("NoEnd", A8), ("Ring", A9), ("Lacks", A10), ("Unclear", A11), ("Idle", A12), ("Broken", A13), ("Holed", A14), ("NoBack", A15), ("TooLong", A17), ("TooGreat", A18), ("NoName", A20), ("NoSpot", A21), ("NoLibrary", A22), ("NoHole", A23), ("NoPicture", A24), ("NoWorth", A25)]) (bs := [false, false, false, false, false, false, false, false, false, false, false, false, false, false, false, true, false, false, false, false, false, false, false]) XK kis_TooLong rfl, s_TooGreat := isAll_tab (l := [("NoText", A1), ("NoItem", A2), ("NoTerm", A3), ("Taken", A4), ("Unjudged", A5), ("Holds", A6), ("NoRow", A7), ("NoEnd", A8), ("Ring", A9), ("Lacks", A10), ("Unclear", A11), ("Idle", A12), ("Broken", A13), ("Holed", A14), ("NoBack", A15), ("TooLong", A17), ("TooGreat", A18), ("NoName", A20), ("NoSpot", A21), ("NoLibrary", A22), ("NoHole", A23), ("NoPicture", A24), ("NoWorth", A25)]) (bs := [false, false, false, false, false, false, false, false, false, false, false, false, false, false, false, false, true, false, false, false, false, false, false]) XK kis_TooGreat rfl, s_NoName := isAll_tab (l := [("NoText", A1), ("NoItem", A2), ("NoTerm", A3), ("Taken", A4), ("Unjudged", A5), ("Holds", A6), ("NoRow", A7), ("NoEnd", A8), ("Ring", A9), ("Lacks", A10), ("Unclear", A11), ("Idle", A12), ("Broken", A13), ("Holed", A14), ("NoBack", A15), ("TooLong", A17), ("TooGreat", A18), ("NoName", A20), ("NoSpot", A21), ("NoLibrary", A22), ("NoHole", A23), ("NoPicture", A24), ("NoWorth", A25)]) (bs := [false, false, false, false, false, false, false, false, false, false, false, false, false, false, false, false, false, true, false, false, false, false, false]) XK kis_NoName rfl, s_NoSpot := isAll_tab (l := [("NoText", A1), ("NoItem", A2), ("NoTerm", A3), ("Taken", A4), ("Unjudged", A5), ("Holds", A6), ("NoRow", A7), ("NoEnd", A8), ("Ring", A9), ("Lacks", A10), ("Unclear", A11), ("Idle", A12), ("Broken", A13), ("Holed", A14), ("NoBack", A15), ("TooLong", A17), ("TooGreat", A18), ("NoName", A20), ("NoSpot", A21), ("NoLibrary", A22), ("NoHole", A23), ("NoPicture", A24), ("NoWorth", A25)]) (bs := [false, false, false, false, false, false, false, false, false, false, false, false, false, false, false, false, false, false, true, false, false, false, false]) XK kis_NoSpot rfl, s_NoLibrary := isAll_tab (l := [("NoText", A1), ("NoItem", A2), ("NoTerm", A3), ("Taken", A4), ("Unjudged", A5), ("Holds", A6), ("NoRow", A7), ("NoEnd", A8), ("Ring", A9), ("Lacks", A10), ("Unclear", A11), ("Idle", A12), ("Broken", A13), ("Holed", A14), ("NoBack", A15), ("TooLong", A17), ("TooGreat", A18), ("NoName", A20), ("NoSpot", A21), ("NoLibrary", A22), ("NoHole", A23), ("NoPicture", A24), ("NoWorth", A25)]) (bs := [false, false, false, false, false, false, false, false, false, false, false, false, false, false, false, false, false, false, false, true, false, false, false]) XK kis_NoLibrary rfl, s_NoHole := isAll_tab (l := [("NoText", A1), ("NoItem", A2), ("NoTerm", A3), ("Taken", A4), ("Unjudged", A5), ("Holds", A6), ("NoRow", A7), ("NoEnd", A8), ("Ring", A9), ("Lacks", A10), ("Unclear", A11), ("Idle", A12), ("Broken", A13), ("Holed", A14), ("NoBack", A15), ("TooLong", A17), ("TooGreat", A18), ("NoName", A20), ("NoSpot", A21), ("NoLibrary", A22), ("NoHole", A23), ("NoPicture", A24), ("NoWorth", A25)]) (bs := [false, false, false, false, false, false, false, false, false, false, false, false, false, false, false, false, false, false, false, false, true, false, false]) XK kis_NoHole rfl, s_NoPicture := isAll_tab (l := [("NoText", A1), ("NoItem", A2), ("NoTerm", A3), ("Taken", A4), ("Unjudged", A5), ("Holds", A6), ("NoRow", A7), ("NoEnd", A8), ("Ring", A9), ("Lacks", A10), ("Unclear", A11), ("Idle", A12), ("Broken", A13), ("Holed", A14), ("NoBack", A15), ("TooLong", A17), ("TooGreat", A18), ("NoName", A20), ("NoSpot", A21), ("NoLibrary", A22), ("NoHole", A23), ("NoPicture", A24), ("NoWorth", A25)]) (bs := [false, false, false, false, false, false, false, false, false, false, false, false, false, false, false, false, false, false, false, false, false, true, false]) XK kis_NoPicture rfl, s_NoWorth := isAll_tab (l := [("NoText", A1), ("NoItem", A2), ("NoTerm", A3), ("Taken", A4), ("Unjudged", A5), ("Holds", A6), ("NoRow", A7), ("NoEnd", A8), ("Ring", A9), ("Lacks", A10), ("Unclear", A11), ("Idle", A12), ("Broken", A13), ("Holed", A14), ("NoBack", A15), ("TooLong", A17), ("TooGreat", A18), ("NoName", A20), ("NoSpot", A21), ("NoLibrary", A22), ("NoHole", A23), ("NoPicture", A24), ("NoWorth", A25)]) (bs := [false, false, false, false, false, false, false, false, false, false, false, false, false, false, false, false, false, false, false, false, false, false, true]) XK kis_NoWorth rfl, s_TooMuch := isAll_tab (l := [("NoText", A1), ("NoItem", A2), ("NoTerm", A3), ("Taken", A4), ("Unjudged", A5), ("Holds", A6), ("NoRow", A7), ("NoEnd", A8), ("Ring", A9), ("Lacks", A10), ("Unclear", A11), ("Idle", A12), ("Broken", A13), ("Holed", A14), ("NoBack", A15), ("TooLong", A17), ("TooGreat", A18), ("NoName", A20), ("NoSpot", A21), ("NoLibrary", A22), ("NoHole", A23), ("NoPicture", A24), ("NoWorth", A25)]) (bs := [false, false, false, false, false, false, false, false, false, false, false, false, false, false, false, true, true, false, false, false, false, false, false]) XK kis_TooMuch rfl, s_TongueError := isAll_tab (l := [("NoText", A1), ("NoItem", A2), ("NoTerm", A3), ("Taken", A4), ("Unjudged", A5), ("Holds", A6), ("NoRow", A7), ("NoEnd", A8), ("Ring", A9), ("Lacks", A10), ("Unclear", A11), ("Idle", A12), ("Broken", A13), ("Holed", A14), ("NoBack", A15), ("TooLong", A17), ("TooGreat", A18), ("NoName", A20), ("NoSpot", A21), ("NoLibrary", A22), ("NoHole", A23), ("NoPicture", A24), ("NoWorth", A25)]) (bs := [true, true, true, true, true, true, true, true, true, true, true, true, true, true, true, true, true, false, false, false, false, false, false]) XK kis_TongueError rfl, s_ValueError := isAll_tab (l := [("NoText", A1), ("NoItem", A2), ("NoTerm", A3), ("Taken", A4), ("Unjudged", A5), ("Holds", A6), ("NoRow", A7), ("NoEnd", A8), ("Ring", A9), ("Lacks", A10), ("Unclear", A11), ("Idle", A12), ("Broken", A13), ("Holed", A14), ("NoBack", A15), ("TooLong", A17), ("TooGreat", A18), ("NoName", A20), ("NoSpot", A21), ("NoLibrary", A22), ("NoHole", A23), ("NoPicture", A24), ("NoWorth", A25)]) (bs := [true, true, true, true, true, true, true, true, true, true, true, true, true, true, true, true, true, false, false, false, false, false, false]) XK kis_ValueError rfl, s_Absent := isAll_tab (l := [("NoText", A1), ("NoItem", A2), ("NoTerm", A3), ("Taken", A4), ("Unjudged", A5), ("Holds", A6), ("NoRow", A7), ("NoEnd", A8), ("Ring", A9), ("Lacks", A10), ("Unclear", A11), ("Idle", A12), ("Broken", A13), ("Holed", A14), ("NoBack", A15), ("TooLong", A17), ("TooGreat", A18), ("NoName", A20), ("NoSpot", A21), ("NoLibrary", A22), ("NoHole", A23), ("NoPicture", A24), ("NoWorth", A25)]) (bs := [false, false, false, false, false, false, false, false, false, false, false, false, false, false, false, false, false, true, true, true, true, true, true]) XK kis_Absent rfl, s_KeyError := isAll_tab (l := [("NoText", A1), ("NoItem", A2), ("NoTerm", A3), ("Taken", A4), ("Unjudged", A5), ("Holds", A6), ("NoRow", A7), ("NoEnd", A8), ("Ring", A9), ("Lacks", A10), ("Unclear", A11), ("Idle", A12), ("Broken", A13), ("Holed", A14), ("NoBack", A15), ("TooLong", A17), ("TooGreat", A18), ("NoName", A20), ("NoSpot", A21), ("NoLibrary", A22), ("NoHole", A23), ("NoPicture", A24), ("NoWorth", A25)]) (bs := [false, false, false, false, false, false, false, false, false, false, false, false, false, false, false, false, false, true, true, true, true, true, true]) XK kis_KeyError rfl, f_spot := fld_cons XX5 kf5_spot (fld_cons XX21 kf21_spot (fld_nil)), f_word := fld_cons XX5 kf5_word (fld_cons XX7 kf7_word (fld_nil)), f_shape := fld_cons XX6 kf6_shape (fld_nil), f_k := fld_cons XX6 kf6_k (fld_nil), f_row := fld_cons XX7 kf7_row (fld_cons XX8 kf8_row (fld_cons XX12 kf12_row (fld_nil))), f_name := fld_cons XX4 kf4_name (fld_cons XX8 kf8_name (fld_cons XX10 kf10_name (fld_cons XX11 kf11_name (fld_cons XX12 kf12_name (fld_cons XX13 kf13_name (fld_cons XX14 kf14_name (fld_cons XX20 kf20_name (fld_nil)))))))), f_names := fld_cons XX9 kf9_names (fld_nil), f_arguments := fld_cons XX10 kf10_arguments (fld_nil), f_many := fld_cons XX15 kf15_many (fld_nil), f_most := fld_cons XX17 kf17_most (fld_nil), f_size := fld_cons XX18 kf18_size (fld_nil), f_lib := fld_cons XX22 kf22_lib (fld_nil), f_hole := fld_cons XX23 kf23_hole (fld_nil), f_n := fld_cons XX24 kf24_n (fld_cons XX25 kf25_n (fld_nil)) }
  exact all_ok M LV 11 (by decide)
end
end Lw
open PySem PySem.W PyProof.Rows
set_option maxRecDepth 100000 in
set_option maxHeartbeats 0 in
theorem PySem.Challenge.cw_walksbyworth_k06_refusals_made_holds : PySem.Challenge.rw_walksbyworth_k06_refusals_made.Holds := by
  w_on; o_law; k_head; (case hw => w_witness2)
  k_fill
  refine Pd.walkT (l := PySem.Challenge.rw_walksbyworth_k06_refusals_made) (k := Lw.LV) rfl rfl Lw.rgL [] (fun w h Y => ⟨PySem.W.kIn_of Y, fun p hp => by cases hp⟩) (fun _ p hp => by cases hp) (fun _ p hp => by cases hp) ?F
  case F =>
    intro w mg fa h KX G hmg
    replace hmg : mg "law" = some (.ref fa) := hmg
    refine' Lw.all_mk KX G hmg ?a0 ?l0 ?c0 ?k0 ?a1 ?l1 ?c1 ?k1 ?a2 ?l2 ?c2 ?k2 ?a3 ?l3 ?c3 ?k3 ?a4 ?l4 ?c4 ?k4 ?a5 ?l5 ?c5 ?k5 ?a6 ?l6 ?c6 ?k6 ?a7 ?l7 ?c7 ?k7 ?a8 ?l8 ?c8 ?k8 ?a9 ?l9 ?c9 ?k9 ?a10 ?l10 ?c10 ?k10 ?a11 ?l11 ?c11 ?k11 ?ka0 ?kx0 ?ka1 ?kx1 ?ka2 ?kx2 ?ka3 ?kx3 ?ka4 ?kx4 ?ka5 ?kx5 ?ka6 ?kx6 ?ka7 ?kx7 ?ka8 ?kx8 ?ka9 ?kx9 ?ka10 ?kx10 ?ka11 ?kx11 ?ka12 ?kx12 ?ka13 ?kx13 ?ka14 ?kx14 ?ka15 ?kx15 ?ka16 ?kx16 ?ka17 ?kx17 ?ka18 ?kx18 ?ka19 ?kx19 ?ka20 ?kx20 ?ka21 ?kx21 ?ka22 ?kx22 ?ka23 ?kx23 ?ka24 ?kx24 ?ka25 ?kx25 ?ke1 ?ke2 ?ke3 ?ki4 ?kt4 ?kl4 ?kc4 ?kk4 ?kb4 ?kf4_name ?ki5 ?kt5 ?kl5 ?kc5 ?kk5 ?kb5 ?kf5_spot ?kf5_word ?ki6 ?kt6 ?kl6 ?kc6 ?kk6 ?kb6 ?kf6_shape ?kf6_k ?ki7 ?kt7 ?kl7 ?kc7 ?kk7 ?kb7 ?kf7_row ?kf7_word ?ki8 ?kt8 ?kl8 ?kc8 ?kk8 ?kb8 ?kf8_name ?kf8_row ?ki9 ?kt9 ?kl9 ?kc9 ?kk9 ?kb9 ?kf9_names ?ki10 ?kt10 ?kl10 ?kc10 ?kk10 ?kb10 ?kf10_name ?kf10_arguments ?ki11 ?kt11 ?kl11 ?kc11 ?kk11 ?kb11 ?kf11_name ?ki12 ?kt12 ?kl12 ?kc12 ?kk12 ?kb12 ?kf12_name ?kf12_row ?ki13 ?kt13 ?kl13 ?kc13 ?kk13 ?kb13 ?kf13_name ?ki14 ?kt14 ?kl14 ?kc14 ?kk14 ?kb14 ?kf14_name ?ki15 ?kt15 ?kl15 ?kc15 ?kk15 ?kb15 ?kf15_many ?ki17 ?kt17 ?kl17 ?kc17 ?kk17 ?kb17 ?kf17_most ?ki18 ?kt18 ?kl18 ?kc18 ?kk18 ?kb18 ?kf18_size ?ki20 ?kt20 ?kl20 ?kc20 ?kk20 ?kb20 ?kf20_name ?ki21 ?kt21 ?kl21 ?kc21 ?kk21 ?kb21 ?kf21_spot ?ki22 ?kt22 ?kl22 ?kc22 ?kk22 ?kb22 ?kf22_lib ?ki23 ?kt23 ?kl23 ?kc23 ?kk23 ?kb23 ?kf23_hole ?ki24 ?kt24 ?kl24 ?kc24 ?kk24 ?kb24 ?kf24_n ?ki25 ?kt25 ?kl25 ?kc25 ?kk25 ?kb25 ?kf25_n ?kis_NoText ?kis_NoItem ?kis_NoTerm ?kis_Taken ?kis_Unjudged ?kis_Holds ?kis_NoRow ?kis_NoEnd ?kis_Ring ?kis_Lacks ?kis_Unclear ?kis_Idle ?kis_Broken ?kis_Holed ?kis_NoBack ?kis_TooLong ?kis_TooGreat ?kis_NoName ?kis_NoSpot ?kis_NoLibrary ?kis_NoHole ?kis_NoPicture ?kis_NoWorth ?kis_TooMuch ?kis_TongueError ?kis_ValueError ?kis_Absent ?kis_KeyError ?zz_KeyError ?zz_ValueError ?zz_int ?zz_isinstance ?zz_len ?zz_list ?zz_range ?zz_repr ?zz_str ?zz_sum ?zz_tuple
    (case a0 => k_is)
    (case l0 => k_is)
    (case c0 => k_is)
    (case k0 => k_is)
    (case a1 => k_is)
    (case l1 => k_is)
    (case c1 => k_is)
    (case k1 => k_is)
    (case a2 => k_is)
    (case l2 => k_is)
    (case c2 => k_is)
    (case k2 => k_is)
    (case a3 => k_is)
    (case l3 => k_is)
    (case c3 => k_is)
    (case k3 => k_is)
    (case a4 => k_is)
    (case l4 => k_is)
    (case c4 => k_is)
    (case k4 => k_is)
    (case a5 => k_is)
    (case l5 => k_is)
    (case c5 => k_is)
    (case k5 => k_is)
    (case a6 => k_is)
    (case l6 => k_is)
    (case c6 => k_is)
    (case k6 => k_is)
    (case a7 => k_is)
    (case l7 => k_is)
    (case c7 => k_is)
    (case k7 => k_is)
    (case a8 => k_is)
    (case l8 => k_is)
    (case c8 => k_is)
    (case k8 => k_is)
    (case a9 => k_is)
    (case l9 => k_is)
    (case c9 => k_is)
    (case k9 => k_is)
    (case a10 => k_is)
    (case l10 => k_is)
    (case c10 => k_is)
    (case k10 => k_is)
    (case a11 => k_is)
    (case l11 => k_is)
    (case c11 => k_is)
    (case k11 => k_is)
    (case ka0 => k_is)
    (case kx0 => kernel_rfl)
    (case ka1 => k_is)
    (case kx1 => kernel_rfl)
    (case ka2 => k_is)
    (case kx2 => kernel_rfl)
    (case ka3 => k_is)
    (case kx3 => kernel_rfl)
    (case ka4 => k_is)
    (case kx4 => kernel_rfl)
    (case ka5 => k_is)
    (case kx5 => kernel_rfl)
    (case ka6 => k_is)
    (case kx6 => kernel_rfl)
    (case ka7 => k_is)
    (case kx7 => kernel_rfl)
    (case ka8 => k_is)
    (case kx8 => kernel_rfl)
    (case ka9 => k_is)
    (case kx9 => kernel_rfl)
    (case ka10 => k_is)
    (case kx10 => kernel_rfl)
    (case ka11 => k_is)
    (case kx11 => kernel_rfl)
    (case ka12 => k_is)
    (case kx12 => kernel_rfl)
    (case ka13 => k_is)
    (case kx13 => kernel_rfl)
    (case ka14 => k_is)
    (case kx14 => kernel_rfl)
    (case ka15 => k_is)
    (case kx15 => kernel_rfl)
    (case ka16 => k_is)
    (case kx16 => kernel_rfl)
    (case ka17 => k_is)
    (case kx17 => kernel_rfl)
    (case ka18 => k_is)
    (case kx18 => kernel_rfl)
    (case ka19 => k_is)
    (case kx19 => kernel_rfl)
    (case ka20 => k_is)
    (case kx20 => kernel_rfl)
    (case ka21 => k_is)
    (case kx21 => kernel_rfl)
    (case ka22 => k_is)
    (case kx22 => kernel_rfl)
    (case ka23 => k_is)
    (case kx23 => kernel_rfl)
    (case ka24 => k_is)
    (case kx24 => kernel_rfl)
    (case ka25 => k_is)
    (case kx25 => kernel_rfl)
    (case ke1 => kernel_rfl)
    (case ke2 => kernel_rfl)
    (case ke3 => kernel_rfl)
    (case ki4 => k_is)
    (case kt4 => k_is)
    (case kl4 => k_is)
    (case kc4 => k_is)
    (case kk4 => k_is)
    (case kb4 => kernel_rfl)
    (case kf4_name => k_is)
    (case ki5 => k_is)
    (case kt5 => k_is)
    (case kl5 => k_is)
    (case kc5 => k_is)
    (case kk5 => k_is)
    (case kb5 => kernel_rfl)
    (case kf5_spot => k_is)
    (case kf5_word => k_is)
    (case ki6 => k_is)
    (case kt6 => k_is)
    (case kl6 => k_is)
    (case kc6 => k_is)
    (case kk6 => k_is)
    (case kb6 => kernel_rfl)
    (case kf6_shape => k_is)
    (case kf6_k => k_is)
    (case ki7 => k_is)
    (case kt7 => k_is)
    (case kl7 => k_is)
    (case kc7 => k_is)
    (case kk7 => k_is)
    (case kb7 => kernel_rfl)
    (case kf7_row => k_is)
    (case kf7_word => k_is)
    (case ki8 => k_is)
    (case kt8 => k_is)
    (case kl8 => k_is)
    (case kc8 => k_is)
    (case kk8 => k_is)
    (case kb8 => kernel_rfl)
    (case kf8_name => k_is)
    (case kf8_row => k_is)
    (case ki9 => k_is)
    (case kt9 => k_is)
    (case kl9 => k_is)
    (case kc9 => k_is)
    (case kk9 => k_is)
    (case kb9 => kernel_rfl)
    (case kf9_names => k_is)
    (case ki10 => k_is)
    (case kt10 => k_is)
    (case kl10 => k_is)
    (case kc10 => k_is)
    (case kk10 => k_is)
    (case kb10 => kernel_rfl)
    (case kf10_name => k_is)
    (case kf10_arguments => k_is)
    (case ki11 => k_is)
    (case kt11 => k_is)
    (case kl11 => k_is)
    (case kc11 => k_is)
    (case kk11 => k_is)
    (case kb11 => kernel_rfl)
    (case kf11_name => k_is)
    (case ki12 => k_is)
    (case kt12 => k_is)
    (case kl12 => k_is)
    (case kc12 => k_is)
    (case kk12 => k_is)
    (case kb12 => kernel_rfl)
    (case kf12_name => k_is)
    (case kf12_row => k_is)
    (case ki13 => k_is)
    (case kt13 => k_is)
    (case kl13 => k_is)
    (case kc13 => k_is)
    (case kk13 => k_is)
    (case kb13 => kernel_rfl)
    (case kf13_name => k_is)
    (case ki14 => k_is)
    (case kt14 => k_is)
    (case kl14 => k_is)
    (case kc14 => k_is)
    (case kk14 => k_is)
    (case kb14 => kernel_rfl)
    (case kf14_name => k_is)
    (case ki15 => k_is)
    (case kt15 => k_is)
    (case kl15 => k_is)
    (case kc15 => k_is)
    (case kk15 => k_is)
    (case kb15 => kernel_rfl)
    (case kf15_many => k_is)
    (case ki17 => k_is)
    (case kt17 => k_is)
    (case kl17 => k_is)
    (case kc17 => k_is)
    (case kk17 => k_is)
    (case kb17 => kernel_rfl)
    (case kf17_most => k_is)
    (case ki18 => k_is)
    (case kt18 => k_is)
    (case kl18 => k_is)
    (case kc18 => k_is)
    (case kk18 => k_is)
    (case kb18 => kernel_rfl)
    (case kf18_size => k_is)
    (case ki20 => k_is)
    (case kt20 => k_is)
    (case kl20 => k_is)
    (case kc20 => k_is)
    (case kk20 => k_is)
    (case kb20 => kernel_rfl)
    (case kf20_name => k_is)
    (case ki21 => k_is)
    (case kt21 => k_is)
    (case kl21 => k_is)
    (case kc21 => k_is)
    (case kk21 => k_is)
    (case kb21 => kernel_rfl)
    (case kf21_spot => k_is)
    (case ki22 => k_is)
    (case kt22 => k_is)
    (case kl22 => k_is)
    (case kc22 => k_is)
    (case kk22 => k_is)
    (case kb22 => kernel_rfl)
    (case kf22_lib => k_is)
    (case ki23 => k_is)
    (case kt23 => k_is)
    (case kl23 => k_is)
    (case kc23 => k_is)
    (case kk23 => k_is)
    (case kb23 => kernel_rfl)
    (case kf23_hole => k_is)
    (case ki24 => k_is)
    (case kt24 => k_is)
    (case kl24 => k_is)
    (case kc24 => k_is)
    (case kk24 => k_is)
    (case kb24 => kernel_rfl)
    (case kf24_n => k_is)
    (case ki25 => k_is)
    (case kt25 => k_is)
    (case kl25 => k_is)
    (case kc25 => k_is)
    (case kk25 => k_is)
    (case kb25 => kernel_rfl)
    (case kf25_n => k_is)
    (case kis_NoText => kernel_rfl)
    (case kis_NoItem => kernel_rfl)
    (case kis_NoTerm => kernel_rfl)
    (case kis_Taken => kernel_rfl)
    (case kis_Unjudged => kernel_rfl)
    (case kis_Holds => kernel_rfl)
    (case kis_NoRow => kernel_rfl)
    (case kis_NoEnd => kernel_rfl)
    (case kis_Ring => kernel_rfl)
    (case kis_Lacks => kernel_rfl)
    (case kis_Unclear => kernel_rfl)
    (case kis_Idle => kernel_rfl)
    (case kis_Broken => kernel_rfl)
    (case kis_Holed => kernel_rfl)
    (case kis_NoBack => kernel_rfl)
    (case kis_TooLong => kernel_rfl)
    (case kis_TooGreat => kernel_rfl)
    (case kis_NoName => kernel_rfl)
    (case kis_NoSpot => kernel_rfl)
    (case kis_NoLibrary => kernel_rfl)
    (case kis_NoHole => kernel_rfl)
    (case kis_NoPicture => kernel_rfl)
    (case kis_NoWorth => kernel_rfl)
    (case kis_TooMuch => kernel_rfl)
    (case kis_TongueError => kernel_rfl)
    (case kis_ValueError => kernel_rfl)
    (case kis_Absent => kernel_rfl)
    (case kis_KeyError => kernel_rfl)
    (case zz_KeyError => k_is)
    (case zz_ValueError => k_is)
    (case zz_int => k_is)
    (case zz_isinstance => k_is)
    (case zz_len => k_is)
    (case zz_list => k_is)
    (case zz_range => k_is)
    (case zz_repr => k_is)
    (case zz_str => k_is)
    (case zz_sum => k_is)
    (case zz_tuple => k_is)

