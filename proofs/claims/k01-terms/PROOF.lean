import PyProof.Rows.All
import Wide.All
import OpenK.AllK
import Wide.FinOn
import HandS.ForMost
import HandS.Walk
import HandS.IsInst
import HandS.Style
import HandS.ExcOwn
import HandS.WordsExc
import HandS.TupAny
import HandS.TryOnly
import HandS.Conv
import HandS.Rev
import KE.DataEq
import PyProof.ReprRoads
import HandS.RaiseMore
import HandS.Wide
import HandS.TupMul
import HandS.Text
import PyProof.Rows.IntBool
import HandS.Small
import PyProof.CollectIter
import PyProof.WalksMore
import HandS.ReplaceLit
import PySem.Challenge.RW_walksbyworth_k01_terms_of_anything
import PyProof.Rows.StrSplitCount
import PyProof.Rows.StrJoinMade
set_option Elab.async false
set_option linter.all false
set_option maxRecDepth 100000
namespace Pd
open PySem PySem.Spec PyProof.Rows L2

/-! ## data, cells, worlds -/
/-- a Python datum: deep values; a cell is a changeable object; glob a name of the module -/
inductive D where
  | non | bl (b : Bool) | int (i : Int) | str (x : Str)
  | tup (xs : List D) | lst (xs : List D) | dct (ks : List Key) (vs : List D)
  | cell (n : Nat) | glob (x : Str) | scr (ns : List Int)
inductive Cel where
  | lst (xs : List D) | dct (ks : List Key) (vs : List D) | dead
abbrev Sto := List Cel
structure Cn where
  K : PySem.W.Frag
  mg : Str → Option Value
structure Wd where
  H : Hp
  A : List Addr
  st : Sto
  hid : List Addr

def CLive (W : Wd) (a : Addr) : Prop := ∃ (n : Nat) (c : Cel), W.A[n]? = some a ∧ W.st[n]? = some c ∧ c ≠ .dead
def Live (W : Wd) (a : Addr) : Prop := CLive W a ∨ a ∈ W.hid
def KTup (K : PySem.W.Frag) (a : Addr) (xs : List V) : Prop :=
  ∃ (o : Obj) (its : Array Value) (n : Nat), K.lookup a = some o ∧ o.cls = .type "tuple" ∧ o.data = .seq its n ∧ its.size ≤ sizeLine ∧ Vals xs its.toList
def KLst (K : PySem.W.Frag) (a : Addr) (xs : List V) : Prop :=
  ∃ (o : Obj) (its : Array Value) (n : Nat), K.lookup a = some o ∧ o.cls = .type "list" ∧ o.dict = none ∧ o.data = .seq its n ∧ its.size ≤ sizeLine ∧ Vals xs its.toList
def TupAt (K : PySem.W.Frag) (W : Wd) (a : Addr) (xs : List V) : Prop := (Rd W.H a (.tup xs) ∧ ¬ Live W a) ∨ KTup K a xs
def LstAt (K : PySem.W.Frag) (W : Wd) (a : Addr) (xs : List V) : Prop := W.H a = some (.lst xs) ∧ ¬ Live W a
def ScrAt (K : PySem.W.Frag) (W : Wd) (a : Addr) (xs : List V) : Prop := (Rd W.H a (.lst xs) ∧ ¬ Live W a) ∨ KLst K a xs
theorem TupAt.sq {K : PySem.W.Frag} {W : Wd} {a : Addr} {xs : List V} (h : TupAt K W a xs) : SqT K W.H a xs := by
  rcases h with h | h
  · exact .inl h.1
  · exact .inr h
theorem LstAt.sq {K : PySem.W.Frag} {W : Wd} {a : Addr} {xs : List V} (h : LstAt K W a xs) : SqL K W.H a xs := SqL.of h.1
theorem ScrAt.sq {K : PySem.W.Frag} {W : Wd} {a : Addr} {xs : List V} (h : ScrAt K W a xs) : SqL K W.H a xs := by
  rcases h with h | h
  · exact .inl h.1
  · exact .inr h

mutual
/-- the value v stands for the datum -/
def Rep (C : Cn) (W : Wd) : D → V → Prop
  | .non, v => v = .non
  | .bl b, v => v = .bl b
  | .int i, v => v = .int i
  | .str x, v => v = .str x
  | .tup ds, v => ∃ a xs, v = .ref a ∧ TupAt C.K W a xs ∧ RepL C W ds xs
  | .lst ds, v => ∃ a xs, v = .ref a ∧ LstAt C.K W a xs ∧ RepL C W ds xs
  | .dct ks ds, v => ∃ a xs, v = .ref a ∧ W.H a = some (.dK (ks.zip xs)) ∧ ¬ Live W a ∧ ks.length = xs.length ∧ RepL C W ds xs
  | .cell n, v => ∃ a, v = .ref a ∧ W.A[n]? = some a
  | .glob x, v => ∃ a, v = .ref a ∧ C.mg x = some (.ref a)
  | .scr ns, v => ∃ a, v = .ref a ∧ ScrAt C.K W a (ns.map V.int)
def RepL (C : Cn) (W : Wd) : List D → List V → Prop
  | [], vs => vs = []
  | d :: ds, vs => ∃ v r, vs = v :: r ∧ Rep C W d v ∧ RepL C W ds r
end

/-- one world goes on in another -/
structure Ext (W W' : Wd) : Prop where
  pre : W.A <+: W'.A
  hid : W'.hid = W.hid
  keep : ∀ a o, W.H a = some o → ¬ CLive W a → W'.H a = some o ∧ ¬ CLive W' a
  new : ∀ a, a ∈ W'.A → a ∈ W.A ∨ W.H a = none
theorem CLive.mem {W : Wd} {a : Addr} (h : CLive W a) : a ∈ W.A := let ⟨_, _, h1, _, _⟩ := h; List.mem_of_getElem? h1
theorem Ext.refl (W : Wd) : Ext W W := ⟨List.prefix_refl _, rfl, fun _ _ h n => ⟨h, n⟩, fun _ h => .inl h⟩
theorem Ext.trans {W W1 W2 : Wd} (a : Ext W W1) (b : Ext W1 W2) : Ext W W2 :=
  ⟨a.pre.trans b.pre, b.hid.trans a.hid, fun c o h n => let ⟨h1, n1⟩ := a.keep c o h n; b.keep c o h1 n1, fun c h => by
    rcases b.new c h with h | h
    · exact a.new c h
    · by_cases l : CLive W c
      · exact .inl l.mem
      · cases e : W.H c with
        | none => exact .inr rfl
        | some o => rw [(a.keep c o e l).1] at h; cases h⟩
/-- what stood for a datum stands for it -/
structure Mn (W W' : Wd) : Prop where
  pre : W.A <+: W'.A
  keep : ∀ a o, W.H a = some o → ¬ Live W a → W'.H a = some o ∧ ¬ Live W' a
theorem Ext.mn {W W' : Wd} (e : Ext W W') : Mn W W' := ⟨e.pre, fun a o h n => by
  obtain ⟨h1, n1⟩ := e.keep a o h fun z => n (.inl z)
  refine ⟨h1, fun z => ?_⟩
  rcases z with z | z
  · exact n1 z
  · exact n (.inr (e.hid ▸ z))⟩
theorem Mn.refl (W : Wd) : Mn W W := (Ext.refl W).mn
theorem Mn.trans {W W1 W2 : Wd} (a : Mn W W1) (b : Mn W1 W2) : Mn W W2 :=
  ⟨a.pre.trans b.pre, fun c o h n => let ⟨h1, n1⟩ := a.keep c o h n; b.keep c o h1 n1⟩
theorem pre_get {α : Type} {l m : List α} (h : l <+: m) {n : Nat} {a : α} (e : l[n]? = some a) : m[n]? = some a := by
  obtain ⟨t, rfl⟩ := h
  have hl : n < l.length := (List.getElem?_eq_some_iff.mp e).1
  rw [List.getElem?_append_left hl]; exact e
section
variable {C : Cn} {W W' : Wd}
theorem Rd.mn {a : Addr} {o : HO} (e : Mn W W') (h : Rd W.H a o) (n : ¬ Live W a) : Rd W'.H a o ∧ ¬ Live W' a := by
  rcases h with h | ⟨ob, h⟩
  · obtain ⟨h1, n1⟩ := e.keep a _ h n
    exact ⟨.inl h1, n1⟩
  · obtain ⟨h1, n1⟩ := e.keep a _ h n
    exact ⟨.inr ⟨ob, h1⟩, n1⟩
mutual
theorem Rep.mn (e : Mn W W') : ∀ {d : D} {v : V}, Rep C W d v → Rep C W' d v
  | .non, _, h => h
  | .bl _, _, h => h
  | .int _, _, h => h
  | .str _, _, h => h
  | .tup ds, v, h => by
    unfold Rep at h ⊢
    obtain ⟨a, xs, ev, ht, hr⟩ := h
    refine ⟨a, xs, ev, ?_, RepL.mn e hr⟩
    rcases ht with ⟨h1, h2⟩ | h1
    · exact .inl (Rd.mn e h1 h2)
    · exact .inr h1
  | .lst ds, v, h => by
    unfold Rep at h ⊢
    obtain ⟨a, xs, ev, ht, hr⟩ := h
    exact ⟨a, xs, ev, e.keep a _ ht.1 ht.2, RepL.mn e hr⟩
  | .dct ks ds, v, h => by
    unfold Rep at h ⊢
    obtain ⟨a, xs, ev, h1, h2, hl, hr⟩ := h
    obtain ⟨h3, h4⟩ := e.keep a _ h1 h2
    exact ⟨a, xs, ev, h3, h4, hl, RepL.mn e hr⟩
  | .cell n, v, h => by
    unfold Rep at h ⊢
    obtain ⟨a, ev, ha⟩ := h
    exact ⟨a, ev, pre_get e.pre ha⟩
  | .glob x, v, h => by
    unfold Rep at h ⊢
    exact h
  | .scr ns, v, h => by
    unfold Rep at h ⊢
    obtain ⟨a, ev, ht⟩ := h
    refine ⟨a, ev, ?_⟩
    rcases ht with ⟨h1, h2⟩ | h1
    · exact .inl (Rd.mn e h1 h2)
    · exact .inr h1
theorem RepL.mn (e : Mn W W') : ∀ {ds : List D} {vs : List V}, RepL C W ds vs → RepL C W' ds vs
  | [], _, h => by unfold RepL at h ⊢; exact h
  | d :: ds, vs, h => by
    unfold RepL at h ⊢
    obtain ⟨v, r, ev, h1, h2⟩ := h
    exact ⟨v, r, ev, Rep.mn e h1, RepL.mn e h2⟩
end
theorem Rep.ext {d : D} {v : V} (h : Rep C W d v) (e : Ext W W') : Rep C W' d v := Rep.mn e.mn h
theorem RepL.ext {ds : List D} {vs : List V} (h : RepL C W ds vs) (e : Ext W W') : RepL C W' ds vs := RepL.mn e.mn h
theorem RepL.nil : RepL C W [] [] := by unfold RepL; rfl
theorem RepL.cons {d : D} {v : V} {ds : List D} {vs : List V} (h : Rep C W d v) (t : RepL C W ds vs) : RepL C W (d :: ds) (v :: vs) := by
  unfold RepL; exact ⟨v, vs, rfl, h, t⟩
theorem RepL.length : ∀ {ds : List D} {vs : List V}, RepL C W ds vs → ds.length = vs.length
  | [], _, h => by unfold RepL at h; subst h; rfl
  | d :: ds, vs, h => by
    unfold RepL at h
    obtain ⟨v, r, rfl, h1, h2⟩ := h
    rw [List.length_cons, List.length_cons, RepL.length h2]
theorem RepL.nil_inv {vs : List V} (h : RepL C W [] vs) : vs = [] := by unfold RepL at h; exact h
theorem RepL.cons_inv {d : D} {ds : List D} {vs : List V} (h : RepL C W (d :: ds) vs) : ∃ v r, vs = v :: r ∧ Rep C W d v ∧ RepL C W ds r := by unfold RepL at h; exact h
theorem RepL.append : ∀ {ds es : List D} {vs us : List V}, RepL C W ds vs → RepL C W es us → RepL C W (ds ++ es) (vs ++ us)
  | [], es, vs, us, h, k => by rw [h.nil_inv]; exact k
  | d :: ds, es, vs, us, h, k => by
    obtain ⟨v, r, rfl, h1, h2⟩ := h.cons_inv
    exact .cons h1 (RepL.append h2 k)
theorem RepL.get : ∀ {ds : List D} {vs : List V} {i : Nat} {d : D}, RepL C W ds vs → ds[i]? = some d → ∃ v, vs[i]? = some v ∧ Rep C W d v
  | [], _, _, _, h, e => by simp at e
  | d :: ds, vs, 0, _, h, e => by
    obtain ⟨v, r, rfl, h1, h2⟩ := h.cons_inv
    simp at e; subst e
    exact ⟨v, rfl, h1⟩
  | d :: ds, vs, i + 1, _, h, e => by
    obtain ⟨v, r, rfl, h1, h2⟩ := h.cons_inv
    simp at e
    obtain ⟨u, hu, hr⟩ := RepL.get h2 e
    exact ⟨u, by simpa using hu, hr⟩
theorem RepL.getV {ds : List D} {vs : List V} {i : Nat} {v : V} (h : RepL C W ds vs) (e : vs[i]? = some v) : ∃ d, ds[i]? = some d ∧ Rep C W d v := by
  have hl := h.length
  have hi : i < ds.length := by rw [hl]; exact (List.getElem?_eq_some_iff.mp e).1
  obtain ⟨u, hu, hr⟩ := h.get (List.getElem?_eq_getElem hi)
  rw [e] at hu; cases hu
  exact ⟨_, List.getElem?_eq_getElem hi, hr⟩
theorem RepL.take : ∀ {ds : List D} {vs : List V} (n : Nat), RepL C W ds vs → RepL C W (ds.take n) (vs.take n)
  | _, _, 0, h => by simp only [List.take_zero]; exact .nil
  | [], _, n + 1, h => by rw [h.nil_inv]; simp only [List.take_nil]; exact .nil
  | d :: ds, vs, n + 1, h => by
    obtain ⟨v, r, rfl, h1, h2⟩ := h.cons_inv
    exact .cons h1 (RepL.take n h2)
theorem RepL.drop : ∀ {ds : List D} {vs : List V} (n : Nat), RepL C W ds vs → RepL C W (ds.drop n) (vs.drop n)
  | _, _, 0, h => h
  | [], _, n + 1, h => by rw [h.nil_inv]; simp only [List.drop_nil]; exact .nil
  | d :: ds, vs, n + 1, h => by
    obtain ⟨v, r, rfl, h1, h2⟩ := h.cons_inv
    exact RepL.drop n h2
theorem RepL.set : ∀ {ds : List D} {vs : List V} {d : D} {v : V} (i : Nat), RepL C W ds vs → Rep C W d v → RepL C W (ds.set i d) (vs.set i v)
  | [], _, _, _, _, h, _ => by rw [h.nil_inv]; exact .nil
  | d :: ds, vs, _, _, 0, h, k => by
    obtain ⟨v, r, rfl, h1, h2⟩ := h.cons_inv
    exact .cons k h2
  | d :: ds, vs, _, _, i + 1, h, k => by
    obtain ⟨v, r, rfl, h1, h2⟩ := h.cons_inv
    exact .cons h1 (RepL.set i h2 k)
theorem RepL.reverse {ds : List D} {vs : List V} (h : RepL C W ds vs) : RepL C W ds.reverse vs.reverse := by
  induction ds generalizing vs with
  | nil => rw [h.nil_inv]; exact .nil
  | cons d ds ih =>
    obtain ⟨v, r, rfl, h1, h2⟩ := h.cons_inv
    rw [List.reverse_cons, List.reverse_cons]
    exact (ih h2).append (.cons h1 .nil)
theorem RepL.dropLast {ds : List D} {vs : List V} (h : RepL C W ds vs) : RepL C W ds.dropLast vs.dropLast := by
  rw [List.dropLast_eq_take, List.dropLast_eq_take, h.length]; exact h.take _
theorem RepL.eraseIdx : ∀ {ds : List D} {vs : List V} (i : Nat), RepL C W ds vs → RepL C W (ds.eraseIdx i) (vs.eraseIdx i)
  | [], _, _, h => by rw [h.nil_inv]; exact .nil
  | d :: ds, vs, 0, h => by
    obtain ⟨v, r, rfl, h1, h2⟩ := h.cons_inv
    exact h2
  | d :: ds, vs, i + 1, h => by
    obtain ⟨v, r, rfl, h1, h2⟩ := h.cons_inv
    exact .cons h1 (RepL.eraseIdx i h2)
theorem RepL.replicate {d : D} {v : V} (h : Rep C W d v) : ∀ n : Nat, RepL C W (List.replicate n d) (List.replicate n v)
  | 0 => .nil
  | n + 1 => .cons h (RepL.replicate h n)
theorem RepL.ints {ns : List Int} {vs : List V} (h : RepL C W (ns.map D.int) vs) : vs = ns.map V.int := by
  induction ns generalizing vs with
  | nil => exact h.nil_inv
  | cons n ns ih =>
    obtain ⟨v, r, rfl, h1, h2⟩ := h.cons_inv
    unfold Rep at h1
    subst h1
    rw [ih h2]; rfl
theorem RepL.strs {ns : List Str} {vs : List V} (h : RepL C W (ns.map D.str) vs) : vs = ns.map V.str := by
  induction ns generalizing vs with
  | nil => exact h.nil_inv
  | cons n ns ih =>
    obtain ⟨v, r, rfl, h1, h2⟩ := h.cons_inv
    unfold Rep at h1
    subst h1
    rw [ih h2]; rfl
theorem RepL.bls {ns : List Bool} {vs : List V} (h : RepL C W (ns.map D.bl) vs) : vs = ns.map V.bl := by
  induction ns generalizing vs with
  | nil => exact h.nil_inv
  | cons n ns ih =>
    obtain ⟨v, r, rfl, h1, h2⟩ := h.cons_inv
    unfold Rep at h1
    subst h1
    rw [ih h2]; rfl
theorem RepL.of_strs (ns : List Str) : RepL C W (ns.map D.str) (ns.map V.str) := by
  induction ns with
  | nil => exact .nil
  | cons n ns ih => exact .cons (by unfold Rep; rfl) ih
theorem RepL.of_ints (ns : List Int) : RepL C W (ns.map D.int) (ns.map V.int) := by
  induction ns with
  | nil => exact .nil
  | cons n ns ih => exact .cons (by unfold Rep; rfl) ih
theorem Rep.tup_inv {ds : List D} {v : V} (h : Rep C W (.tup ds) v) : ∃ a xs, v = .ref a ∧ TupAt C.K W a xs ∧ RepL C W ds xs := by unfold Rep at h; exact h
theorem Rep.lst_inv {ds : List D} {v : V} (h : Rep C W (.lst ds) v) : ∃ a xs, v = .ref a ∧ LstAt C.K W a xs ∧ RepL C W ds xs := by unfold Rep at h; exact h
theorem Rep.cell_inv {n : Nat} {v : V} (h : Rep C W (.cell n) v) : ∃ a, v = .ref a ∧ W.A[n]? = some a := by unfold Rep at h; exact h
theorem Rep.int_inv {i : Int} {v : V} (h : Rep C W (.int i) v) : v = .int i := by unfold Rep at h; exact h
theorem Rep.bl_inv {i : Bool} {v : V} (h : Rep C W (.bl i) v) : v = .bl i := by unfold Rep at h; exact h
theorem Rep.str_inv {i : Str} {v : V} (h : Rep C W (.str i) v) : v = .str i := by unfold Rep at h; exact h
theorem Rep.non_inv {v : V} (h : Rep C W .non v) : v = .non := by unfold Rep at h; exact h
theorem Rep.int (i : Int) : Rep C W (.int i) (.int i) := by unfold Rep; rfl
theorem Rep.bl (i : Bool) : Rep C W (.bl i) (.bl i) := by unfold Rep; rfl
theorem Rep.str (i : Str) : Rep C W (.str i) (.str i) := by unfold Rep; rfl
theorem Rep.non : Rep C W .non .non := by unfold Rep; rfl
end

/-- a cell as it stands -/
def CellAt (C : Cn) (W : Wd) : Cel → Addr → Prop
  | .lst ds, a => ∃ xs, W.H a = some (.lst xs) ∧ RepL C W ds xs
  | .dct ks ds, a => ∃ xs, W.H a = some (.dK (ks.zip xs)) ∧ ks.length = xs.length ∧ RepL C W ds xs
  | .dead, a => W.H a ≠ none
structure WOk (C : Cn) (W : Wd) : Prop where
  len : W.A.length = W.st.length
  nd : W.A.Nodup
  at_ : ∀ (n : Nat) (a : Addr) (c : Cel), W.A[n]? = some a → W.st[n]? = some c → CellAt C W c a
  hidT : ∀ a ∈ W.hid, W.H a ≠ none
section
variable {C : Cn} {W W' : Wd}
theorem CellAt.tracked {c : Cel} {a : Addr} (h : CellAt C W c a) : W.H a ≠ none := by
  cases c with
  | lst ds => obtain ⟨xs, e, _⟩ := h; rw [e]; exact nofun
  | dct ks ds => obtain ⟨xs, e, _⟩ := h; rw [e]; exact nofun
  | dead => exact h
theorem WOk.not_live (ok : WOk C W) {p : Addr} (hp : W.H p = none) : ¬ Live W p := fun z => by
  rcases z with ⟨n, c, h1, h2, _⟩ | z
  · exact (ok.at_ n p c h1 h2).tracked hp
  · exact ok.hidT p z hp
theorem WOk.fresh (ok : WOk C W) {p : Addr} (hp : W.H p = none) : p ∉ W.A := fun z => by
  obtain ⟨n, hn, e⟩ := List.getElem_of_mem z
  have h2 : n < W.st.length := by rw [← ok.len]; exact hn
  exact (ok.at_ n p _ (List.getElem?_eq_some_iff.mpr ⟨hn, e⟩) (List.getElem?_eq_getElem h2)).tracked hp
/-- a new object that never changes -/
def Wd.lay (W : Wd) (p : Addr) (o : HO) : Wd := { W with H := upd W.H p o }
theorem lay_ext (ok : WOk C W) {p : Addr} (hp : W.H p = none) (o : HO) : Ext W (W.lay p o) :=
  ⟨List.prefix_refl _, rfl, fun a u h n => ⟨by show upd W.H p o a = _; rw [upd_ne (ne_of_none h hp)]; exact h, n⟩, fun _ h => .inl h⟩
theorem lay_ok (ok : WOk C W) {p : Addr} (hp : W.H p = none) (o : HO) : WOk C (W.lay p o) := by
  have e := lay_ext ok hp o
  refine ⟨ok.len, ok.nd, fun n a c h1 h2 => ?_, fun a h => ?_⟩
  · have h := ok.at_ n a c h1 h2
    have ne : a ≠ p := fun z => h.tracked (z ▸ hp)
    cases c with
    | lst ds => obtain ⟨xs, q, r⟩ := h; exact ⟨xs, by show upd W.H p o a = _; rw [upd_ne ne]; exact q, r.ext e⟩
    | dct ks ds => obtain ⟨xs, q, l, r⟩ := h; exact ⟨xs, by show upd W.H p o a = _; rw [upd_ne ne]; exact q, l, r.ext e⟩
    | dead => show upd W.H p o a ≠ none; rw [upd_ne ne]; exact h
  · show upd W.H p o a ≠ none
    by_cases z : a = p
    · subst z; rw [upd_same]; exact nofun
    · rw [upd_ne z]; exact ok.hidT a h
theorem lay_not_live (ok : WOk C W) {p : Addr} (hp : W.H p = none) (o : HO) : ¬ Live (W.lay p o) p := fun z => ok.not_live hp z
theorem lay_tup (ok : WOk C W) {p : Addr} (hp : W.H p = none) {ds : List D} {xs : List V} (r : RepL C W ds xs) : Rep C (W.lay p (.tup xs)) (.tup ds) (.ref p) := by
  unfold Rep
  exact ⟨p, xs, rfl, .inl ⟨.inl upd_same, lay_not_live ok hp _⟩, r.ext (lay_ext ok hp _)⟩
theorem lay_lst (ok : WOk C W) {p : Addr} (hp : W.H p = none) {ds : List D} {xs : List V} (r : RepL C W ds xs) : Rep C (W.lay p (.lst xs)) (.lst ds) (.ref p) := by
  unfold Rep
  exact ⟨p, xs, rfl, ⟨upd_same, lay_not_live ok hp _⟩, r.ext (lay_ext ok hp _)⟩
theorem lay_dct (ok : WOk C W) {p : Addr} (hp : W.H p = none) {ks : List Key} {ds : List D} {xs : List V} (hl : ks.length = xs.length) (r : RepL C W ds xs) : Rep C (W.lay p (.dK (ks.zip xs))) (.dct ks ds) (.ref p) := by
  unfold Rep
  exact ⟨p, xs, rfl, upd_same, lay_not_live ok hp _, hl, r.ext (lay_ext ok hp _)⟩
/-- a new changeable object -/
def Wd.cel (W : Wd) (p : Addr) (o : HO) (c : Cel) : Wd := { W with H := upd W.H p o, A := W.A ++ [p], st := W.st ++ [c] }
theorem cel_ext (ok : WOk C W) {p : Addr} (hp : W.H p = none) (o : HO) (c : Cel) : Ext W (W.cel p o c) := by
  refine ⟨⟨[p], rfl⟩, rfl, fun a u h n => ⟨by show upd W.H p o a = _; rw [upd_ne (ne_of_none h hp)]; exact h, fun ⟨m, d, h1, h2, h3⟩ => ?_⟩, fun a h => ?_⟩
  rotate_left
  · rcases List.mem_append.mp (show a ∈ W.A ++ [p] from h) with h | h
    · exact .inl h
    · simp at h; subst h; exact .inr hp
  have h1 : (W.A ++ [p])[m]? = some a := h1
  have h2 : (W.st ++ [c])[m]? = some d := h2
  by_cases hm : m < W.A.length
  · rw [List.getElem?_append_left hm] at h1
    rw [List.getElem?_append_left (by rw [← ok.len]; exact hm)] at h2
    exact n ⟨m, d, h1, h2, h3⟩
  · have hm' : m = W.A.length := by
      have := (List.getElem?_eq_some_iff.mp h1).1
      rw [List.length_append, List.length_singleton] at this
      omega
    subst hm'
    simp at h1
    subst h1
    rw [hp] at h; cases h
theorem cel_ok (ok : WOk C W) {p : Addr} (hp : W.H p = none) {o : HO} {c : Cel} (hc : ∀ W', Ext W W' → W'.H = upd W.H p o → CellAt C W' c p) : WOk C (W.cel p o c) := by
  have e := cel_ext ok hp o c
  refine ⟨?_, ?_, fun n a d h1 h2 => ?_, fun a h => ?_⟩
  · show (W.A ++ [p]).length = (W.st ++ [c]).length
    rw [List.length_append, List.length_append, ok.len]; rfl
  · show (W.A ++ [p]).Nodup
    rw [List.nodup_append]
    refine ⟨ok.nd, by simp, fun a ha b hb => ?_⟩
    simp at hb
    subst hb
    exact fun z => ok.fresh hp (z ▸ ha)
  · have h1 : (W.A ++ [p])[n]? = some a := h1
    have h2 : (W.st ++ [c])[n]? = some d := h2
    by_cases hm : n < W.A.length
    · rw [List.getElem?_append_left hm] at h1
      rw [List.getElem?_append_left (by rw [← ok.len]; exact hm)] at h2
      have h := ok.at_ n a d h1 h2
      have ne : a ≠ p := fun z => h.tracked (z ▸ hp)
      cases d with
      | lst ds => obtain ⟨xs, q, r⟩ := h; exact ⟨xs, by show upd W.H p o a = _; rw [upd_ne ne]; exact q, r.ext e⟩
      | dct ks ds => obtain ⟨xs, q, l, r⟩ := h; exact ⟨xs, by show upd W.H p o a = _; rw [upd_ne ne]; exact q, l, r.ext e⟩
      | dead => show upd W.H p o a ≠ none; rw [upd_ne ne]; exact h
    · have hm' : n = W.A.length := by
        have := (List.getElem?_eq_some_iff.mp h1).1
        rw [List.length_append, List.length_singleton] at this
        omega
      subst hm'
      simp at h1
      subst h1
      rw [ok.len] at h2
      simp at h2
      subst h2
      exact hc _ e rfl
  · show upd W.H p o a ≠ none
    by_cases z : a = p
    · subst z; rw [upd_same]; exact nofun
    · rw [upd_ne z]; exact ok.hidT a h
theorem cel_lst_ok (ok : WOk C W) {p : Addr} (hp : W.H p = none) {ds : List D} {xs : List V} (r : RepL C W ds xs) : WOk C (W.cel p (.lst xs) (.lst ds)) :=
  cel_ok ok hp fun W' e h => ⟨xs, by rw [h]; exact upd_same, r.ext e⟩
theorem cel_dct_ok (ok : WOk C W) {p : Addr} (hp : W.H p = none) {ks : List Key} {ds : List D} {xs : List V} (hl : ks.length = xs.length) (r : RepL C W ds xs) : WOk C (W.cel p (.dK (ks.zip xs)) (.dct ks ds)) :=
  cel_ok ok hp fun W' e h => ⟨xs, by rw [h]; exact upd_same, hl, r.ext e⟩
theorem cel_rep (ok : WOk C W) {p : Addr} {o : HO} {c : Cel} : Rep C (W.cel p o c) (.cell W.st.length) (.ref p) := by
  unfold Rep
  refine ⟨p, rfl, ?_⟩
  show (W.A ++ [p])[W.st.length]? = some p
  rw [← ok.len]; simp
/-- a changeable object is changed -/
def Wd.put (W : Wd) (n : Nat) (a : Addr) (o : HO) (c : Cel) : Wd := { W with H := upd W.H a o, st := W.st.set n c }
theorem put_ext (ok : WOk C W) {n : Nat} {a : Addr} {c₀ : Cel} (ha : W.A[n]? = some a) (hc : W.st[n]? = some c₀) (hd : c₀ ≠ .dead) (o : HO) (c : Cel) : Ext W (W.put n a o c) := by
  have hn : n < W.st.length := (List.getElem?_eq_some_iff.mp hc).1
  refine ⟨List.prefix_refl _, rfl, fun b u h nl => ?_, fun _ h => .inl h⟩
  have ne : b ≠ a := fun z => nl (z ▸ ⟨n, c₀, ha, hc, hd⟩)
  refine ⟨by show upd W.H a o b = _; rw [upd_ne ne]; exact h, fun ⟨m, d, h1, h2, h3⟩ => ?_⟩
  have h2 : (W.st.set n c)[m]? = some d := h2
  by_cases hm : n = m
  · subst hm
    have h1 : W.A[n]? = some b := h1
    rw [ha] at h1
    exact ne (Option.some.inj h1).symm
  · rw [List.getElem?_set_ne hm] at h2
    exact nl ⟨m, d, h1, h2, h3⟩
theorem put_ok (ok : WOk C W) {n : Nat} {a : Addr} {c₀ : Cel} (ha : W.A[n]? = some a) (hc : W.st[n]? = some c₀) (hd : c₀ ≠ .dead) {o : HO} {c : Cel}
    (hnew : ∀ W', Ext W W' → W'.H = upd W.H a o → CellAt C W' c a) : WOk C (W.put n a o c) := by
  have e := put_ext ok ha hc hd o c
  have hn : n < W.st.length := (List.getElem?_eq_some_iff.mp hc).1
  refine ⟨?_, ok.nd, fun m b d h1 h2 => ?_, fun b h => ?_⟩
  · show W.A.length = (W.st.set n c).length
    rw [List.length_set]; exact ok.len
  · have h2 : (W.st.set n c)[m]? = some d := h2
    by_cases hm : n = m
    · subst hm
      have h1 : W.A[n]? = some b := h1
      rw [ha] at h1; cases h1
      rw [List.getElem?_set_self hn] at h2; cases h2
      exact hnew _ e rfl
    · rw [List.getElem?_set_ne hm] at h2
      have h := ok.at_ m b d h1 h2
      have ne : b ≠ a := fun z => by
        subst z
        obtain ⟨q1, e1⟩ := List.getElem?_eq_some_iff.mp ha
        obtain ⟨q2, e2⟩ := List.getElem?_eq_some_iff.mp (show W.A[m]? = some b from h1)
        exact hm ((List.getElem_inj ok.nd).mp (e1.trans e2.symm))
      cases d with
      | lst ds => obtain ⟨xs, q, r⟩ := h; exact ⟨xs, by show upd W.H a o b = _; rw [upd_ne ne]; exact q, r.ext e⟩
      | dct ks ds => obtain ⟨xs, q, l, r⟩ := h; exact ⟨xs, by show upd W.H a o b = _; rw [upd_ne ne]; exact q, l, r.ext e⟩
      | dead => show upd W.H a o b ≠ none; rw [upd_ne ne]; exact h
  · show upd W.H a o b ≠ none
    by_cases z : b = a
    · subst z; rw [upd_same]; exact nofun
    · rw [upd_ne z]; exact ok.hidT b h
theorem put_lst_ok (ok : WOk C W) {n : Nat} {a : Addr} {c₀ : Cel} (ha : W.A[n]? = some a) (hc : W.st[n]? = some c₀) (hd : c₀ ≠ .dead) {ds : List D} {xs : List V} (r : RepL C W ds xs) : WOk C (W.put n a (.lst xs) (.lst ds)) :=
  put_ok ok ha hc hd fun W' e h => ⟨xs, by rw [h]; exact upd_same, r.ext e⟩
theorem put_dct_ok (ok : WOk C W) {n : Nat} {a : Addr} {c₀ : Cel} (ha : W.A[n]? = some a) (hc : W.st[n]? = some c₀) (hd : c₀ ≠ .dead) {ks : List Key} {ds : List D} {xs : List V} (hl : ks.length = xs.length) (r : RepL C W ds xs) : WOk C (W.put n a (.dK (ks.zip xs)) (.dct ks ds)) :=
  put_ok ok ha hc hd fun W' e h => ⟨xs, by rw [h]; exact upd_same, hl, r.ext e⟩
/-- a cell's object, from its datum -/
theorem cell_lst (ok : WOk C W) {n : Nat} {v : V} {ds : List D} (r : Rep C W (.cell n) v) (hs : W.st[n]? = some (.lst ds)) : ∃ a xs, v = .ref a ∧ W.A[n]? = some a ∧ W.H a = some (.lst xs) ∧ RepL C W ds xs := by
  obtain ⟨a, rfl, ha⟩ := r.cell_inv
  obtain ⟨xs, h, q⟩ := ok.at_ n a _ ha hs
  exact ⟨a, xs, rfl, ha, h, q⟩
theorem cell_dct (ok : WOk C W) {n : Nat} {v : V} {ks : List Key} {ds : List D} (r : Rep C W (.cell n) v) (hs : W.st[n]? = some (.dct ks ds)) : ∃ a xs, v = .ref a ∧ W.A[n]? = some a ∧ W.H a = some (.dK (ks.zip xs)) ∧ ks.length = xs.length ∧ RepL C W ds xs := by
  obtain ⟨a, rfl, ha⟩ := r.cell_inv
  obtain ⟨xs, h, l, q⟩ := ok.at_ n a _ ha hs
  exact ⟨a, xs, rfl, ha, h, l, q⟩
end
end Pd

namespace Pd
open PySem PySem.Spec L2

/-! ## outcomes -/
structure Exn where
  cls : Str
  fs : List (Str × D)
inductive Out (α : Type) where
  | ok (a : α) (st : Sto) | err (e : Exn) (st : Sto) | bad
abbrev En := List (Option D)
inductive SOut where
  | nx (en : En) (st : Sto) | rt (d : D) (st : Sto) | bk (en : En) (st : Sto) | ct (en : En) (st : Sto) | err (e : Exn) (en : En) (st : Sto) | bad
abbrev EM := En → Sto → Out D
abbrev LM := En → Sto → Out (List D)
abbrev TM := En → Sto → Out Bool
abbrev SM := En → Sto → SOut
def mb {α β : Type} (x : Out α) (f : α → Sto → Out β) : Out β := match x with
  | .ok a st => f a st | .err e st => .err e st | .bad => .bad
def lift {α : Type} (o : Option α) (st : Sto) : Out α := match o with
  | some a => .ok a st | none => .bad
@[simp] theorem mb_ok {α β : Type} (a : α) (st : Sto) (f : α → Sto → Out β) : mb (.ok a st) f = f a st := rfl
@[simp] theorem mb_bad {α β : Type} (f : α → Sto → Out β) : mb (.bad) f = .bad := rfl
@[simp] theorem mb_err {α β : Type} (e : Exn) (st : Sto) (f : α → Sto → Out β) : mb (.err e st) f = .err e st := rfl
@[simp] theorem lift_some {α : Type} (a : α) (st : Sto) : lift (some a) st = .ok a st := rfl
@[simp] theorem lift_none {α : Type} (st : Sto) : lift (none : Option α) st = .bad := rfl

def EnvR (C : Cn) (W : Wd) (σ : St) (en : En) : Prop := σ.length = en.length ∧ ∀ (i : Nat) (d : D), en[i]? = some (some d) → ∃ v, σ[i]? = some (some v) ∧ Rep C W d v
theorem EnvR.mn {C : Cn} {W W' : Wd} {σ : St} {en : En} (h : EnvR C W σ en) (e : Mn W W') : EnvR C W' σ en := ⟨h.1, fun i d q => let ⟨v, h1, h2⟩ := h.2 i d q; ⟨v, h1, h2.mn e⟩⟩
theorem EnvR.ext {C : Cn} {W W' : Wd} {σ : St} {en : En} (h : EnvR C W σ en) (e : Ext W W') : EnvR C W' σ en := h.mn e.mn
theorem EnvR.set {C : Cn} {W : Wd} {σ : St} {en : En} (h : EnvR C W σ en) {d : D} {v : V} (i : Nat) (r : Rep C W d v) : EnvR C W (σ.set i (some v)) (en.set i (some d)) := by
  refine ⟨by rw [List.length_set, List.length_set]; exact h.1, fun j e q => ?_⟩
  by_cases hj : i = j
  · subst hj
    by_cases hl : i < en.length
    · rw [List.getElem?_set_self hl] at q
      cases q
      exact ⟨v, List.getElem?_set_self (by rw [h.1]; exact hl), r⟩
    · rw [List.getElem?_eq_none (by rw [List.length_set]; omega)] at q; cases q
  · rw [List.getElem?_set_ne hj] at q
    obtain ⟨u, h1, h2⟩ := h.2 j e q
    exact ⟨u, by rw [List.getElem?_set_ne hj]; exact h1, h2⟩
theorem EnvR.wipe {C : Cn} {W : Wd} {σ : St} {en : En} (h : EnvR C W σ en) : ∀ vs : List Nat, EnvR C W (L2.wipe σ vs) (vs.foldr (fun v e => e.set v none) en)
  | [] => h
  | v :: vs => by
    have q := EnvR.wipe h vs
    show EnvR C W ((L2.wipe σ vs).set v none) ((vs.foldr (fun v e => e.set v none) en).set v none)
    refine ⟨by rw [List.length_set, List.length_set]; exact q.1, fun j e z => ?_⟩
    by_cases hj : v = j
    · subst hj
      by_cases hl : v < (vs.foldr (fun v e => e.set v none) en).length
      · rw [List.getElem?_set_self hl] at z; cases z
      · rw [List.getElem?_eq_none (by rw [List.length_set]; omega)] at z; cases z
    · rw [List.getElem?_set_ne hj] at z
      obtain ⟨u, h1, h2⟩ := q.2 j e z
      exact ⟨u, by rw [List.getElem?_set_ne hj]; exact h1, h2⟩

/-- an exception that flies: its class by name, its own dict -/
def ExR (C : Cn) (W : Wd) (e : Exn) (cls : Value) (dd : Option Addr) : Prop :=
  (C.mg e.cls = some cls ∨ (C.mg e.cls = none ∧ bootBuiltins e.cls = some cls)) ∧
  match dd with
  | none => e.fs = []
  | some d => ∃ xs, W.H d = some (.xd ((e.fs.map (·.1)).zip xs)) ∧ ¬ Live W d ∧ RepL C W (e.fs.map (·.2)) xs

section
variable (C : Cn) (Wx : WX)
def PostE (W : Wd) (σ : St) (Q : VK) : Out D → Prop
  | .ok d st' => ∀ W' v, W'.st = st' → WOk C W' → Ext W W' → Rep C W' d v → Q v W'.H
  | .err e st' => ∀ W' cls dd, W'.st = st' → WOk C W' → Ext W W' → ExR C W' e cls dd → Wx cls dd σ W'.H
  | .bad => False
def PostT (W : Wd) (σ : St) (Q : Bool → Hp → Prop) : Out Bool → Prop
  | .ok b st' => ∀ W', W'.st = st' → WOk C W' → Ext W W' → Q b W'.H
  | .err e st' => ∀ W' cls dd, W'.st = st' → WOk C W' → Ext W W' → ExR C W' e cls dd → Wx cls dd σ W'.H
  | .bad => False
def PostL (W : Wd) (σ : St) (Q : List V → Hp → Prop) : Out (List D) → Prop
  | .ok ds st' => ∀ W' vs, W'.st = st' → WOk C W' → Ext W W' → RepL C W' ds vs → Q vs W'.H
  | .err e st' => ∀ W' cls dd, W'.st = st' → WOk C W' → Ext W W' → ExR C W' e cls dd → Wx cls dd σ W'.H
  | .bad => False
def PostS (W : Wd) (Dn : Ends) : SOut → Prop
  | .nx en' st' => ∀ W' σ', W'.st = st' → WOk C W' → Ext W W' → EnvR C W' σ' en' → Dn.nx σ' W'.H
  | .rt d st' => ∀ W' v, W'.st = st' → WOk C W' → Ext W W' → Rep C W' d v → Dn.rt v W'.H
  | .bk en' st' => ∀ W' σ', W'.st = st' → WOk C W' → Ext W W' → EnvR C W' σ' en' → Dn.bk σ' W'.H
  | .ct en' st' => ∀ W' σ', W'.st = st' → WOk C W' → Ext W W' → EnvR C W' σ' en' → Dn.ct σ' W'.H
  | .err e en' st' => ∀ W' σ' cls dd, W'.st = st' → WOk C W' → Ext W W' → EnvR C W' σ' en' → ExR C W' e cls dd → Wx cls dd σ' W'.H
  | .bad => False
def tD (m : EM) : TE := fun σ H Q => ∃ W en, W.H = H ∧ WOk C W ∧ EnvR C W σ en ∧ PostE C Wx W σ Q (m en W.st)
def tDT (m : TM) : TT := fun σ H Q => ∃ W en, W.H = H ∧ WOk C W ∧ EnvR C W σ en ∧ PostT C Wx W σ Q (m en W.st)
def tDL (m : LM) : TA := fun σ H Q => ∃ W en, W.H = H ∧ WOk C W ∧ EnvR C W σ en ∧ PostL C Wx W σ Q (m en W.st)
def tDS (m : SM) : TS := fun Dn σ H => ∃ W en, W.H = H ∧ WOk C W ∧ EnvR C W σ en ∧ PostS C Wx W Dn (m en W.st)
end
abbrev cn (X : Cx) : Cn := ⟨X.K, X.mg⟩
structure PD (X : Cx) (Wx : WX) (e : Expr) (m : EM) : Prop where
  pe : PE X e (tD (cn X) Wx m)
structure PDT (X : Cx) (Wx : WX) (e : Expr) (m : TM) : Prop where
  pt : PT X e (tDT (cn X) Wx m)
structure PDW (X : Cx) (Wx : WX) (e : Expr) (m : TM) : Prop where
  pw : PW X e (tDT (cn X) Wx m)
structure PDA (X : Cx) (Wx : WX) (es : List Expr) (m : LM) : Prop where
  pa : PA X es (tDL (cn X) Wx m)
structure PDS (X : Cx) (Wx : WX) (st : Stmt) (m : SM) : Prop where
  ps : PS X st (tDS (cn X) Wx m)
structure PDSs (X : Cx) (Wx : WX) (st : List Stmt) (m : SM) : Prop where
  ps : PSs X st (tDS (cn X) Wx m)

theorem PE.weak {X : Cx} {e : Expr} {t t' : TE} (h : PE X e t) (f : ∀ σ H Q, t' σ H Q → t σ H Q) : PE X e t' := ⟨fun pins s σ H Q I q => h.run pins s σ H Q I (f σ H Q q)⟩
theorem PT.weak {X : Cx} {e : Expr} {t t' : TT} (h : PT X e t) (f : ∀ σ H Q, t' σ H Q → t σ H Q) : PT X e t' := ⟨fun pins s σ H Q I q => h.run pins s σ H Q I (f σ H Q q)⟩
theorem PW.weak {X : Cx} {e : Expr} {t t' : TT} (h : PW X e t) (f : ∀ σ H Q, t' σ H Q → t σ H Q) : PW X e t' := ⟨fun wh pins s σ H Q I q => h.run wh pins s σ H Q I (f σ H Q q)⟩
theorem PA.weak {X : Cx} {e : List Expr} {t t' : TA} (h : PA X e t) (f : ∀ σ H Q, t' σ H Q → t σ H Q) : PA X e t' := ⟨fun pos pins s σ H Q I q => h.run pos pins s σ H Q I (f σ H Q q)⟩
theorem PS.weak {X : Cx} {e : Stmt} {t t' : TS} (h : PS X e t) (f : ∀ D σ H, t' D σ H → t D σ H) : PS X e t' := ⟨fun pins s σ H D I q => h.run pins s σ H D I (f D σ H q)⟩
theorem PSs.weak {X : Cx} {e : List Stmt} {t t' : TS} (h : PSs X e t) (f : ∀ D σ H, t' D σ H → t D σ H) : PSs X e t' := ⟨fun pins s σ H D I q => h.run pins s σ H D I (f D σ H q)⟩

section
variable {C : Cn} {Wx : WX} {W W' : Wd} {σ : St} {en : En}
theorem PostE.ext {Q : VK} {o : Out D} (h : PostE C Wx W σ Q o) (e : Ext W W') : PostE C Wx W' σ Q o := by
  cases o with
  | ok d st => exact fun W2 v h1 h2 h3 => h W2 v h1 h2 (e.trans h3)
  | err x st => exact fun W2 c dd h1 h2 h3 => h W2 c dd h1 h2 (e.trans h3)
  | bad => exact h
theorem PostT.ext {Q : Bool → Hp → Prop} {o : Out Bool} (h : PostT C Wx W σ Q o) (e : Ext W W') : PostT C Wx W' σ Q o := by
  cases o with
  | ok d st => exact fun W2 h1 h2 h3 => h W2 h1 h2 (e.trans h3)
  | err x st => exact fun W2 c dd h1 h2 h3 => h W2 c dd h1 h2 (e.trans h3)
  | bad => exact h
theorem PostL.ext {Q : List V → Hp → Prop} {o : Out (List D)} (h : PostL C Wx W σ Q o) (e : Ext W W') : PostL C Wx W' σ Q o := by
  cases o with
  | ok d st => exact fun W2 v h1 h2 h3 => h W2 v h1 h2 (e.trans h3)
  | err x st => exact fun W2 c dd h1 h2 h3 => h W2 c dd h1 h2 (e.trans h3)
  | bad => exact h
theorem PostS.ext {Dn : Ends} {o : SOut} (h : PostS C Wx W Dn o) (e : Ext W W') : PostS C Wx W' Dn o := by
  cases o with
  | nx en st => exact fun W2 v h1 h2 h3 => h W2 v h1 h2 (e.trans h3)
  | rt en st => exact fun W2 v h1 h2 h3 => h W2 v h1 h2 (e.trans h3)
  | bk en st => exact fun W2 v h1 h2 h3 => h W2 v h1 h2 (e.trans h3)
  | ct en st => exact fun W2 v h1 h2 h3 => h W2 v h1 h2 (e.trans h3)
  | err x en st => exact fun W2 s c dd h1 h2 h3 => h W2 s c dd h1 h2 (e.trans h3)
  | bad => exact h
/-- an expression, then what follows -/
theorem tD_seq {m : EM} {R : VK} {G : Out D → Prop} (ok : WOk C W) (er : EnvR C W σ en) (hok : ∀ d st W' v, m en W.st = .ok d st → W'.st = st → WOk C W' → Ext W W' → EnvR C W' σ en → Rep C W' d v → R v W'.H)
    (herr : ∀ e st, m en W.st = .err e st → PostE C Wx W σ R (.err e st)) (hbad : m en W.st ≠ .bad) : tD C Wx m σ W.H R := by
  refine ⟨W, en, rfl, ok, er, ?_⟩
  cases h : m en W.st with
  | ok d st => exact fun W' v h1 h2 h3 h4 => hok d st W' v h h1 h2 h3 (er.ext h3) h4
  | err e st => exact herr e st h
  | bad => exact hbad h
theorem seqE {m : EM} {f : D → Sto → Out D} {Q R : VK} (ok : WOk C W) (er : EnvR C W σ en) (h : PostE C Wx W σ Q (mb (m en W.st) f))
    (hok : ∀ d W' v, WOk C W' → Ext W W' → EnvR C W' σ en → Rep C W' d v → PostE C Wx W' σ Q (f d W'.st) → R v W'.H) : tD C Wx m σ W.H R := by
  refine ⟨W, en, rfl, ok, er, ?_⟩
  cases e : m en W.st with
  | ok d st =>
    rw [e] at h
    exact fun W' v h1 h2 h3 h4 => hok d W' v h2 h3 (er.ext h3) h4 (by subst h1; exact PostE.ext h h3)
  | err x st => rw [e] at h; exact h
  | bad => rw [e] at h; exact h
theorem seqT {m : EM} {f : D → Sto → Out Bool} {Q : Bool → Hp → Prop} {R : VK} (ok : WOk C W) (er : EnvR C W σ en) (h : PostT C Wx W σ Q (mb (m en W.st) f))
    (hok : ∀ d W' v, WOk C W' → Ext W W' → EnvR C W' σ en → Rep C W' d v → PostT C Wx W' σ Q (f d W'.st) → R v W'.H) : tD C Wx m σ W.H R := by
  refine ⟨W, en, rfl, ok, er, ?_⟩
  cases e : m en W.st with
  | ok d st =>
    rw [e] at h
    exact fun W' v h1 h2 h3 h4 => hok d W' v h2 h3 (er.ext h3) h4 (by subst h1; exact PostT.ext h h3)
  | err x st => rw [e] at h; exact h
  | bad => rw [e] at h; exact h
theorem seqL {m : EM} {f : D → Sto → Out (List D)} {Q : List V → Hp → Prop} {R : VK} (ok : WOk C W) (er : EnvR C W σ en) (h : PostL C Wx W σ Q (mb (m en W.st) f))
    (hok : ∀ d W' v, WOk C W' → Ext W W' → EnvR C W' σ en → Rep C W' d v → PostL C Wx W' σ Q (f d W'.st) → R v W'.H) : tD C Wx m σ W.H R := by
  refine ⟨W, en, rfl, ok, er, ?_⟩
  cases e : m en W.st with
  | ok d st =>
    rw [e] at h
    exact fun W' v h1 h2 h3 h4 => hok d W' v h2 h3 (er.ext h3) h4 (by subst h1; exact PostL.ext h h3)
  | err x st => rw [e] at h; exact h
  | bad => rw [e] at h; exact h
/-- .. ahead of an argument list -/
theorem seqLE {m : LM} {f : List D → Sto → Out D} {Q : VK} {R : List V → Hp → Prop} (ok : WOk C W) (er : EnvR C W σ en) (h : PostE C Wx W σ Q (mb (m en W.st) f))
    (hok : ∀ d W' v, WOk C W' → Ext W W' → EnvR C W' σ en → RepL C W' d v → PostE C Wx W' σ Q (f d W'.st) → R v W'.H) : tDL C Wx m σ W.H R := by
  refine ⟨W, en, rfl, ok, er, ?_⟩
  cases e : m en W.st with
  | ok d st =>
    rw [e] at h
    exact fun W' v h1 h2 h3 h4 => hok d W' v h2 h3 (er.ext h3) h4 (by subst h1; exact PostE.ext h h3)
  | err x st => rw [e] at h; exact h
  | bad => rw [e] at h; exact h
theorem seqLL {m : LM} {f : List D → Sto → Out (List D)} {Q : List V → Hp → Prop} {R : List V → Hp → Prop} (ok : WOk C W) (er : EnvR C W σ en) (h : PostL C Wx W σ Q (mb (m en W.st) f))
    (hok : ∀ d W' v, WOk C W' → Ext W W' → EnvR C W' σ en → RepL C W' d v → PostL C Wx W' σ Q (f d W'.st) → R v W'.H) : tDL C Wx m σ W.H R := by
  refine ⟨W, en, rfl, ok, er, ?_⟩
  cases e : m en W.st with
  | ok d st =>
    rw [e] at h
    exact fun W' v h1 h2 h3 h4 => hok d W' v h2 h3 (er.ext h3) h4 (by subst h1; exact PostL.ext h h3)
  | err x st => rw [e] at h; exact h
  | bad => rw [e] at h; exact h
/-- .. ahead of a statement's end -/
def smb {α : Type} (x : Out α) (en : En) (f : α → Sto → SOut) : SOut := match x with
  | .ok a st => f a st | .err e st => .err e en st | .bad => .bad
@[simp] theorem smb_ok {α : Type} (a : α) (st : Sto) (en : En) (f : α → Sto → SOut) : smb (.ok a st) en f = f a st := rfl
@[simp] theorem smb_bad {α : Type} (en : En) (f : α → Sto → SOut) : smb .bad en f = .bad := rfl
@[simp] theorem smb_err {α : Type} (e : Exn) (st : Sto) (en : En) (f : α → Sto → SOut) : smb (.err e st) en f = .err e en st := rfl
theorem seqS {m : EM} {f : D → Sto → SOut} {Dn : Ends} {R : VK} (ok : WOk C W) (er : EnvR C W σ en) (h : PostS C Wx W Dn (smb (m en W.st) en f))
    (hok : ∀ d W' v, WOk C W' → Ext W W' → EnvR C W' σ en → Rep C W' d v → PostS C Wx W' Dn (f d W'.st) → R v W'.H) : tD C Wx m σ W.H R := by
  refine ⟨W, en, rfl, ok, er, ?_⟩
  cases e : m en W.st with
  | ok d st =>
    rw [e] at h
    exact fun W' v h1 h2 h3 h4 => hok d W' v h2 h3 (er.ext h3) h4 (by subst h1; exact PostS.ext h h3)
  | err x st => rw [e] at h; exact fun W' c dd h1 h2 h3 h4 => h W' σ c dd h1 h2 h3 (er.ext h3) h4
  | bad => rw [e] at h; exact h
theorem seqTS {m : TM} {f : Bool → Sto → SOut} {Dn : Ends} {R : Bool → Hp → Prop} (ok : WOk C W) (er : EnvR C W σ en) (h : PostS C Wx W Dn (smb (m en W.st) en f))
    (hok : ∀ b W', WOk C W' → Ext W W' → EnvR C W' σ en → PostS C Wx W' Dn (f b W'.st) → R b W'.H) : tDT C Wx m σ W.H R := by
  refine ⟨W, en, rfl, ok, er, ?_⟩
  cases e : m en W.st with
  | ok d st =>
    rw [e] at h
    exact fun W' h1 h2 h3 => hok d W' h2 h3 (er.ext h3) (by subst h1; exact PostS.ext h h3)
  | err x st => rw [e] at h; exact fun W' c dd h1 h2 h3 h4 => h W' σ c dd h1 h2 h3 (er.ext h3) h4
  | bad => rw [e] at h; exact h
theorem seqTE {m : TM} {f : Bool → Sto → Out D} {Q : VK} {R : Bool → Hp → Prop} (ok : WOk C W) (er : EnvR C W σ en) (h : PostE C Wx W σ Q (mb (m en W.st) f))
    (hok : ∀ b W', WOk C W' → Ext W W' → EnvR C W' σ en → PostE C Wx W' σ Q (f b W'.st) → R b W'.H) : tDT C Wx m σ W.H R := by
  refine ⟨W, en, rfl, ok, er, ?_⟩
  cases e : m en W.st with
  | ok d st =>
    rw [e] at h
    exact fun W' h1 h2 h3 => hok d W' h2 h3 (er.ext h3) (by subst h1; exact PostE.ext h h3)
  | err x st => rw [e] at h; exact h
  | bad => rw [e] at h; exact h
theorem seqTT {m : TM} {f : Bool → Sto → Out Bool} {Q : Bool → Hp → Prop} {R : Bool → Hp → Prop} (ok : WOk C W) (er : EnvR C W σ en) (h : PostT C Wx W σ Q (mb (m en W.st) f))
    (hok : ∀ b W', WOk C W' → Ext W W' → EnvR C W' σ en → PostT C Wx W' σ Q (f b W'.st) → R b W'.H) : tDT C Wx m σ W.H R := by
  refine ⟨W, en, rfl, ok, er, ?_⟩
  cases e : m en W.st with
  | ok d st =>
    rw [e] at h
    exact fun W' h1 h2 h3 => hok d W' h2 h3 (er.ext h3) (by subst h1; exact PostT.ext h h3)
  | err x st => rw [e] at h; exact h
  | bad => rw [e] at h; exact h
end

/-! ## expressions: names, constants -/
section
variable {X : Cx} {Wx : WX} {pos : Pos}
def mVar (i : Nat) : EM := fun en st => match en[i]? with | some (some d) => .ok d st | _ => .bad
theorem pd_var (i : Nat) {x : Str} (h : PE X (.Name x pos) (tVar i)) : PD X Wx (.Name x pos) (mVar i) := ⟨PE.weak h fun σ H Q ⟨W, en, e, ok, er, q⟩ => by
  subst e
  unfold mVar at q
  split at q
  · rename_i d hd
    obtain ⟨v, h1, h2⟩ := er.2 i d hd
    exact ⟨v, h1, q W v rfl ok (Ext.refl W) h2⟩
  · exact q.elim⟩
def mC (d : D) : EM := fun _ st => .ok d st
/-- a constant that has its value by itself -/
theorem pd_c {e : Expr} {v : V} {d : D} (h : PE X e (tC v)) (r : ∀ W, Rep (cn X) W d v) : PD X Wx e (mC d) := ⟨PE.weak h fun σ H Q ⟨W, en, e, ok, er, q⟩ => by
  subst e
  exact q W v rfl ok (Ext.refl W) (r W)⟩
theorem pd_int {i j} : PD X Wx (.Constant (.int i) j pos) (mC (.int i)) := pd_c pe_int fun W => .int i
theorem pd_bl {i j} : PD X Wx (.Constant (.bool i) j pos) (mC (.bl i)) := pd_c pe_bl fun W => .bl i
theorem pd_str {i j} : PD X Wx (.Constant (.str i) j pos) (mC (.str i)) := pd_c pe_str fun W => .str i
theorem pd_non {j} : PD X Wx (.Constant .none j pos) (mC .non) := pd_c pe_non fun W => .non
/-- a module's constants -/
theorem pd_gstr {x z : Str} {t : Tok} (hg : Gl X x) (hm : X.mg x = some (.str z t)) (hd : (x == ("__debug__" : Str)) = false := by decide) : PD X Wx (.Name x pos) (mC (.str z)) := pd_c (v := .str z) (pe_glob hg hm ⟨_, rfl⟩ hd) fun W => .str z
theorem pd_gint {x : Str} {i : Int} {t : Tok} (hg : Gl X x) (hm : X.mg x = some (.int i t)) (hd : (x == ("__debug__" : Str)) = false := by decide) : PD X Wx (.Name x pos) (mC (.int i)) := pd_c (v := .int i) (pe_glob hg hm ⟨_, rfl⟩ hd) fun W => .int i
theorem pd_gref {x : Str} {a : Addr} (hg : Gl X x) (hm : X.mg x = some (.ref a)) (hd : (x == ("__debug__" : Str)) = false := by decide) : PD X Wx (.Name x pos) (mC (.glob x)) := pd_c (v := .ref a) (pe_glob hg hm rfl hd) fun W => by unfold Rep; exact ⟨a, rfl, hm⟩
/-- a module's tuple of texts -/
theorem pd_gtup {x : Str} {a : Addr} {ds : List D} (hg : Gl X x) (hm : X.mg x = some (.ref a)) (hk : ∃ xs, KTup X.K a xs ∧ ∀ W, RepL (cn X) W ds xs) (hd : (x == ("__debug__" : Str)) = false := by decide) : PD X Wx (.Name x pos) (mC (.tup ds)) := by
  obtain ⟨xs, h1, h2⟩ := hk
  exact pd_c (v := .ref a) (pe_glob hg hm rfl hd) fun W => by unfold Rep; exact ⟨a, xs, rfl, .inr h1, h2 W⟩

/-! ## argument lists, displays -/
variable {e a b c : Expr} {es : List Expr} {m ma mb' mc : EM} {lm : LM}
def lNil : LM := fun _ st => .ok [] st
def lCons (m : EM) (lm : LM) : LM := fun en st => mb (m en st) fun d st => mb (lm en st) fun ds st => .ok (d :: ds) st
theorem pda_nil : PDA X Wx [] lNil := ⟨PA.weak pa_nil fun σ H Q ⟨W, en, e, ok, er, q⟩ => by
  subst e; exact q W [] rfl ok (Ext.refl W) .nil⟩
theorem pda_cons (h : PDA X Wx es lm) (he : PD X Wx e m) (hs : starEach (e :: es) X.env = (false, eval e X.env) :: starEach es X.env := by rfl) : PDA X Wx (e :: es) (lCons m lm) :=
  ⟨PA.weak (pa_cons he.pe h.pa hs) fun σ H Q ⟨W, en, e, ok, er, q⟩ => by
    subst e
    refine seqL ok er q fun d W1 v ok1 e1 er1 r1 q1 => ?_
    refine seqLL ok1 er1 q1 fun ds W2 vs ok2 e2 er2 r2 q2 => ?_
    exact q2 W2 (v :: vs) rfl ok2 (Ext.refl W2) (.cons (r1.ext e2) r2)⟩
def small (n : Nat) : Bool := decide (n ≤ sizeLine)
theorem small_iff {n : Nat} : small n = true ↔ n ≤ sizeLine := by unfold small; exact decide_eq_true_iff
def mTup (lm : LM) : EM := fun en st => mb (lm en st) fun ds st => if small ds.length then .ok (.tup ds) st else .bad
def mLst (lm : LM) : EM := fun en st => mb (lm en st) fun ds st => if small ds.length then .ok (.lst ds) st else .bad
def mLstC (lm : LM) : EM := fun en st => mb (lm en st) fun ds st => if small ds.length then .ok (.cell st.length) (st ++ [.lst ds]) else .bad
theorem pd_tup {x1} (h : PDA X Wx es lm) : PD X Wx (.Tuple es x1 pos) (mTup lm) := ⟨PE.weak (pe_tup h.pa) fun σ H Q ⟨W, en, e, ok, er, q⟩ => by
  subst e
  refine seqLE ok er q fun ds W1 vs ok1 e1 er1 r1 q1 => ?_
  by_cases hl : small ds.length = true
  · rw [if_pos hl] at q1
    refine ⟨by rw [← r1.length]; exact small_iff.mp hl, fun p hp => ?_⟩
    exact q1 (W1.lay p (.tup vs)) _ rfl (lay_ok ok1 hp _) (lay_ext ok1 hp _) (lay_tup ok1 hp r1)
  · rw [if_neg hl] at q1; exact q1.elim⟩
theorem pd_lst (h : PDA X Wx es lm) : PD X Wx (.List es pos) (mLst lm) := ⟨PE.weak (pe_lst h.pa) fun σ H Q ⟨W, en, e, ok, er, q⟩ => by
  subst e
  refine seqLE ok er q fun ds W1 vs ok1 e1 er1 r1 q1 => ?_
  by_cases hl : small ds.length = true
  · rw [if_pos hl] at q1
    refine ⟨by rw [← r1.length]; exact small_iff.mp hl, fun p hp => ?_⟩
    exact q1 (W1.lay p (.lst vs)) _ rfl (lay_ok ok1 hp _) (lay_ext ok1 hp _) (lay_lst ok1 hp r1)
  · rw [if_neg hl] at q1; exact q1.elim⟩
theorem pd_lstC (h : PDA X Wx es lm) : PD X Wx (.List es pos) (mLstC lm) := ⟨PE.weak (pe_lst h.pa) fun σ H Q ⟨W, en, e, ok, er, q⟩ => by
  subst e
  refine seqLE ok er q fun ds W1 vs ok1 e1 er1 r1 q1 => ?_
  by_cases hl : small ds.length = true
  · rw [if_pos hl] at q1
    refine ⟨by rw [← r1.length]; exact small_iff.mp hl, fun p hp => ?_⟩
    exact q1 (W1.cel p (.lst vs) (.lst ds)) _ rfl (cel_lst_ok ok1 hp r1) (cel_ext ok1 hp _ _) (cel_rep ok1)
  · rw [if_neg hl] at q1; exact q1.elim⟩

/-! ## operators, by data -/
/-- a two-place operation that makes at most what never changes -/
def rD2 (C : Cn) (g : D → D → Sto → Option D) : R2 := fun x y H Q => ∃ W a b d, W.H = H ∧ WOk C W ∧ Rep C W a x ∧ Rep C W b y ∧ g a b W.st = some d ∧
  ∀ W' v, W'.st = W.st → WOk C W' → Ext W W' → Rep C W' d v → Q v W'.H
def OpD (X : Cx) (f : Value → Value → Sem Value) (g : D → D → Sto → Option D) : Prop := OpR X f (rD2 (cn X) g)
theorem OpD.or {f : Value → Value → Sem Value} {g g' : D → D → Sto → Option D} (h : OpD X f g) (h' : OpD X f g') : OpD X f (fun a b st => (g a b st).or (g' a b st)) := by
  intro pins s σ H x y v u Q I rx ry ⟨W, a, b, d, e, ok, ra, rb, hg, q⟩
  have hg : (g a b W.st).or (g' a b W.st) = some d := hg
  cases e1 : g a b W.st with
  | some d' =>
    rw [e1] at hg
    have hg : some d' = some d := hg
    cases hg
    exact h pins s σ H x y v u Q I rx ry ⟨W, a, b, _, e, ok, ra, rb, e1, q⟩
  | none =>
    rw [e1] at hg
    have hg : g' a b W.st = some d := hg
    exact h' pins s σ H x y v u Q I rx ry ⟨W, a, b, d, e, ok, ra, rb, hg, q⟩
def mOp (g : D → D → Sto → Option D) (ma mb' : EM) : EM := fun en st => mb (ma en st) fun x st => mb (mb' en st) fun y st => lift (g x y st) st
theorem tOp_of {r : R2} {g : D → D → Sto → Option D} {σ : St} {H : Hp} {Q : VK} (hr : ∀ x y H Q, rD2 (cn X) g x y H Q → r x y H Q) (h : tD (cn X) Wx (mOp g ma mb') σ H Q) : tOp r (tD (cn X) Wx ma) (tD (cn X) Wx mb') σ H Q := by
  obtain ⟨W, en, e, ok, er, q⟩ := h
  subst e
  refine seqE ok er q fun x W1 v ok1 e1 er1 r1 q1 => ?_
  refine seqE ok1 er1 q1 fun y W2 u ok2 e2 er2 r2 q2 => ?_
  cases e3 : g x y W2.st with
  | none => rw [e3] at q2; exact q2.elim
  | some d => rw [e3] at q2; exact hr _ _ _ _ ⟨W2, x, y, d, rfl, ok2, r1.ext e2, r2, e3, q2⟩
theorem pd_op {op : Operator} {g : D → D → Sto → Option D} (ho : OpD X (binaryOp op) g) (ha : PD X Wx a ma) (hb : PD X Wx b mb') : PD X Wx (.BinOp a op b pos) (mOp g ma mb') :=
  ⟨PE.weak (pe_op ho ha.pe hb.pe) fun _ _ _ h => tOp_of (fun _ _ _ _ q => q) h⟩
theorem pd_cmp {op : CmpOp} {g : D → D → Sto → Option D} (ho : OpD X (compareOp op) g) (ha : PD X Wx a ma) (hb : PD X Wx b mb') (hm : behindInMarks op b = false := by first | exact nomark _ | rfl) : PD X Wx (.Compare a [op] [b] pos) (mOp g ma mb') :=
  ⟨PE.weak (pe_cmpR ho ha.pe hb.pe hm) fun _ _ _ h => tOp_of (fun _ _ _ _ q => q) h⟩
/-- as a test -/
def asB : D → Option Bool
  | .bl b => some b
  | _ => none
def mB (m : EM) : TM := fun en st => mb (m en st) fun d st => lift (asB d) st
theorem asB_some {d : D} {b : Bool} (h : asB d = some b) : d = .bl b := by
  cases d <;> simp [asB] at h
  subst h; rfl
theorem pdt_cmp {op : CmpOp} {g : D → D → Sto → Option D} (ho : OpD X (compareOp op) g) (ha : PD X Wx a ma) (hb : PD X Wx b mb') (hm : behindInMarks op b = false := by first | exact nomark _ | rfl) : PDT X Wx (.Compare a [op] [b] pos) (mB (mOp g ma mb')) := by
  refine ⟨PT.weak (pt_cmpR ho ha.pe hb.pe hm) fun σ H Q h => ?_⟩
  refine tOp_of (g := g) (fun _ _ _ _ q => q) ?_
  obtain ⟨W, en, e, ok, er, q⟩ := h
  subst e
  refine seqT (m := mOp g ma mb') (f := fun d st => lift (asB d) st) ok er q fun d W1 v ok1 e1 er1 r1 q1 => ?_
  cases e2 : asB d with
  | none => rw [e2] at q1; exact q1.elim
  | some k =>
    rw [e2] at q1
    obtain rfl := asB_some e2
    exact ⟨k, r1.bl_inv, q1 W1 rfl ok1 (Ext.refl _)⟩
/-- an expression whose value is a bool, as a test -/
theorem pdt_val (h : PD X Wx e m) (he : ∀ whole, isTrue e X.env whole = (do let v ← whole; standAt e.pos; holding [v] (truthy v)) := by intro _; rfl) : PDT X Wx e (mB m) := by
  refine ⟨PT.weak (pt_val h.pe he) fun σ H Q ⟨W, en, e, ok, er, q⟩ => ?_⟩
  subst e
  refine seqT ok er q fun d W1 v ok1 e1 er1 r1 q1 => ?_
  cases e2 : asB d with
  | none => rw [e2] at q1; exact q1.elim
  | some k =>
    rw [e2] at q1
    obtain rfl := asB_some e2
    exact ⟨k, r1.bl_inv, q1 W1 rfl ok1 (Ext.refl _)⟩
/-- chains -/
def mChain (g g' : D → D → Sto → Option D) (ma mb' mc : EM) : EM := fun en st => mb (ma en st) fun x st => mb (mb' en st) fun y st => mb (lift (g x y st) st) fun z st => mb (lift (asB z) st) fun k st =>
  if k = true then mb (mc en st) fun z st => lift (g' y z st) st else .ok (.bl false) st
end
end Pd

namespace Pd
open PySem PySem.Spec L2

section
variable {X : Cx} {Wx : WX} {pos : Pos} {e a b c : Expr} {es : List Expr} {m ma mb' mc : EM} {lm : LM} {tm tm' : TM} {rest : List Expr}

/-! ## chains, and, or, not, if-else -/
theorem chain_of {g g' : D → D → Sto → Option D} {σ : St} {H : Hp} {Q : VK} (h : tD (cn X) Wx (mChain g g' ma mb' mc) σ H Q) : tChain (rD2 (cn X) g) (rD2 (cn X) g') (tD (cn X) Wx ma) (tD (cn X) Wx mb') (tD (cn X) Wx mc) σ H Q := by
  obtain ⟨W, en, e, ok, er, q⟩ := h
  subst e
  refine seqE ok er q fun x W1 v ok1 e1 er1 r1 q1 => ?_
  refine seqE ok1 er1 q1 fun y W2 u ok2 e2 er2 r2 q2 => ?_
  cases e3 : g x y W2.st with
  | none => rw [e3] at q2; exact q2.elim
  | some z =>
    rw [e3] at q2
    refine ⟨W2, x, y, z, rfl, ok2, r1.ext e2, r2, e3, fun W3 w hs3 ok3 x3 r3 => ?_⟩
    cases e4 : asB z with
    | none =>
      have q2 : PostE (cn X) Wx W2 σ Q (mb (lift (asB z) W2.st) _) := q2
      rw [e4] at q2; exact q2.elim
    | some k =>
      have q2 : PostE (cn X) Wx W2 σ Q (mb (lift (asB z) W2.st) _) := q2
      rw [e4] at q2
      obtain rfl := asB_some e4
      refine ⟨k, r3.bl_inv, ?_⟩
      cases k with
      | false =>
        rw [if_neg Bool.false_ne_true]
        exact q2 W3 (.bl false) hs3 ok3 x3 (.bl false)
      | true =>
        rw [if_pos rfl]
        have q3 : PostE (cn X) Wx W3 σ Q (mb (mc en W3.st) fun z st => lift (g' y z st) st) := by
          rw [hs3]; exact PostE.ext q2 x3
        refine seqE ok3 (er2.ext x3) q3 fun w' W4 u' ok4 e4 er4 r4 q4 => ?_
        cases e5 : g' y w' W4.st with
        | none => rw [e5] at q4; exact q4.elim
        | some z' => rw [e5] at q4; exact ⟨W4, y, w', z', rfl, ok4, (r2.ext x3).ext e4, r4, e5, q4⟩
theorem pd_chain {op op' : CmpOp} {g g' : D → D → Sto → Option D} (ho : OpD X (compareOp op) g) (ho' : OpD X (compareOp op') g') (ha : PD X Wx a ma) (hb : PD X Wx b mb') (hc : PD X Wx c mc)
    (hm : lastMarks [op, op'] [b, c] = false := by with_unfolding_all rfl) : PD X Wx (.Compare a [op, op'] [b, c] pos) (mChain g g' ma mb' mc) :=
  ⟨PE.weak (pe_chain ho ho' ha.pe hb.pe hc.pe hm) fun σ H Q h => chain_of h⟩
theorem pdt_chain {op op' : CmpOp} {g g' : D → D → Sto → Option D} (ho : OpD X (compareOp op) g) (ho' : OpD X (compareOp op') g') (ha : PD X Wx a ma) (hb : PD X Wx b mb') (hc : PD X Wx c mc)
    (hm : lastMarks [op, op'] [b, c] = false := by with_unfolding_all rfl) : PDT X Wx (.Compare a [op, op'] [b, c] pos) (mB (mChain g g' ma mb' mc)) := by
  refine ⟨PT.weak (pt_chain ho ho' ha.pe hb.pe hc.pe hm) fun σ H Q h => chain_of (Q := fun x H' => ∃ k, x = V.bl k ∧ Q k H') ?_⟩
  obtain ⟨W, en, e, ok, er, q⟩ := h
  subst e
  refine seqT (m := mChain g g' ma mb' mc) (f := fun d st => lift (asB d) st) ok er q fun d W1 v ok1 e1 er1 r1 q1 => ?_
  cases e2 : asB d with
  | none => rw [e2] at q1; exact q1.elim
  | some k =>
    rw [e2] at q1
    obtain rfl := asB_some e2
    exact ⟨k, r1.bl_inv, q1 W1 rfl ok1 (Ext.refl _)⟩

def mAnd (ma mb' : EM) : EM := fun en st => mb (ma en st) fun x st => mb (lift (asB x) st) fun k st => if k = true then mb' en st else .ok (.bl false) st
def mOr (ma mb' : EM) : EM := fun en st => mb (ma en st) fun x st => mb (lift (asB x) st) fun k st => if k = true then .ok (.bl true) st else mb' en st
def mNot (ma : EM) : EM := fun en st => mb (ma en st) fun x st => mb (lift (asB x) st) fun k st => .ok (.bl (!k)) st
theorem pd_one {op} (h : PD X Wx a ma) : PD X Wx (.BoolOp op [a] pos) ma := ⟨pe_one h.pe⟩
theorem pd_and (ha : PD X Wx a ma) (hb : PD X Wx (.BoolOp .And (b :: rest) pos) mb') : PD X Wx (.BoolOp .And (a :: b :: rest) pos) (mAnd ma mb') := by
  refine ⟨PE.weak (pe_and ha.pe hb.pe) fun σ H Q ⟨W, en, e, ok, er, q⟩ => ?_⟩
  subst e
  refine seqE ok er q fun x W1 v ok1 e1 er1 r1 q1 => ?_
  cases e4 : asB x with
  | none => rw [e4] at q1; exact q1.elim
  | some k =>
    rw [e4] at q1
    obtain rfl := asB_some e4
    refine ⟨k, r1.bl_inv, ?_⟩
    cases k with
    | true =>
      rw [if_pos rfl]
      exact ⟨W1, en, rfl, ok1, er1, q1⟩
    | false => rw [if_neg Bool.false_ne_true]; exact q1 W1 _ rfl ok1 (Ext.refl _) (.bl false)
theorem pd_or (ha : PD X Wx a ma) (hb : PD X Wx (.BoolOp .Or (b :: rest) pos) mb') : PD X Wx (.BoolOp .Or (a :: b :: rest) pos) (mOr ma mb') := by
  refine ⟨PE.weak (pe_or ha.pe hb.pe) fun σ H Q ⟨W, en, e, ok, er, q⟩ => ?_⟩
  subst e
  refine seqE ok er q fun x W1 v ok1 e1 er1 r1 q1 => ?_
  cases e4 : asB x with
  | none => rw [e4] at q1; exact q1.elim
  | some k =>
    rw [e4] at q1
    obtain rfl := asB_some e4
    refine ⟨k, r1.bl_inv, ?_⟩
    cases k with
    | true => rw [if_pos rfl]; exact q1 W1 _ rfl ok1 (Ext.refl _) (.bl true)
    | false => rw [if_neg Bool.false_ne_true]; exact ⟨W1, en, rfl, ok1, er1, q1⟩
theorem pd_not (ha : PD X Wx a ma) : PD X Wx (.UnaryOp .Not a pos) (mNot ma) := by
  refine ⟨PE.weak (pe_not ha.pe) fun σ H Q ⟨W, en, e, ok, er, q⟩ => ?_⟩
  subst e
  refine seqE ok er q fun x W1 v ok1 e1 er1 r1 q1 => ?_
  cases e4 : asB x with
  | none => rw [e4] at q1; exact q1.elim
  | some k =>
    rw [e4] at q1
    obtain rfl := asB_some e4
    exact ⟨k, r1.bl_inv, q1 W1 _ rfl ok1 (Ext.refl _) (.bl _)⟩
def tmAnd (t u : TM) : TM := fun en st => mb (t en st) fun k st => if k = true then u en st else .ok false st
def tmOr (t u : TM) : TM := fun en st => mb (t en st) fun k st => if k = true then .ok true st else u en st
def tmNot (t : TM) : TM := fun en st => mb (t en st) fun k st => .ok (!k) st
theorem pdw_and1 (h : PDT X Wx a tm) : PDW X Wx (.BoolOp .And [a] pos) tm := ⟨pw_and1 h.pt⟩
theorem pdw_or1 (h : PDT X Wx a tm) : PDW X Wx (.BoolOp .Or [a] pos) tm := ⟨pw_or1 h.pt⟩
theorem pdw_and (ha : PDT X Wx a tm) (hb : PDW X Wx (.BoolOp .And (b :: rest) pos) tm') : PDW X Wx (.BoolOp .And (a :: b :: rest) pos) (tmAnd tm tm') := by
  refine ⟨PW.weak (pw_and ha.pt hb.pw) fun σ H Q ⟨W, en, e, ok, er, q⟩ => ?_⟩
  subst e
  refine seqTT ok er q fun k W1 ok1 e1 er1 q1 => ?_
  cases k with
  | true => rw [if_pos rfl]; exact ⟨W1, en, rfl, ok1, er1, q1⟩
  | false => rw [if_neg Bool.false_ne_true]; exact q1 W1 rfl ok1 (Ext.refl _)
theorem pdw_or (ha : PDT X Wx a tm) (hb : PDW X Wx (.BoolOp .Or (b :: rest) pos) tm') : PDW X Wx (.BoolOp .Or (a :: b :: rest) pos) (tmOr tm tm') := by
  refine ⟨PW.weak (pw_or ha.pt hb.pw) fun σ H Q ⟨W, en, e, ok, er, q⟩ => ?_⟩
  subst e
  refine seqTT ok er q fun k W1 ok1 e1 er1 q1 => ?_
  cases k with
  | true => rw [if_pos rfl]; exact q1 W1 rfl ok1 (Ext.refl _)
  | false => rw [if_neg Bool.false_ne_true]; exact ⟨W1, en, rfl, ok1, er1, q1⟩
theorem PDW.t {e : Expr} (h : PDW X Wx e tm) : PDT X Wx e tm := ⟨PW.pt h.pw⟩
theorem pdt_not (ha : PDT X Wx a tm) : PDT X Wx (.UnaryOp .Not a pos) (tmNot tm) := by
  refine ⟨PT.weak (pt_not ha.pt) fun σ H Q ⟨W, en, e, ok, er, q⟩ => ?_⟩
  subst e
  exact seqTT ok er q fun k W1 ok1 e1 er1 q1 => q1 W1 rfl ok1 (Ext.refl _)
def mIf (t : TM) (ma mb' : EM) : EM := fun en st => mb (t en st) fun k st => if k = true then ma en st else mb' en st
theorem pd_if (hc : PDT X Wx c tm) (ha : PD X Wx a ma) (hb : PD X Wx b mb') : PD X Wx (.IfExp c a b pos) (mIf tm ma mb') := by
  refine ⟨PE.weak (pe_ifExp hc.pt ha.pe hb.pe) fun σ H Q ⟨W, en, e, ok, er, q⟩ => ?_⟩
  subst e
  refine seqTE ok er q fun k W1 ok1 e1 er1 q1 => ?_
  cases k with
  | true => rw [if_pos rfl]; exact ⟨W1, en, rfl, ok1, er1, q1⟩
  | false => rw [if_neg Bool.false_ne_true]; exact ⟨W1, en, rfl, ok1, er1, q1⟩
end

/-! ## statements -/
section
variable {X : Cx} {Wx : WX} {pos : Pos} {e a b c : Expr} {es : List Expr} {m ma mb' mc : EM} {tm : TM} {s : Stmt} {rest ss : List Stmt} {sm sn : SM}
def sNil : SM := fun en st => .nx en st
def sSeq (m n : SM) : SM := fun en st => match m en st with
  | .nx en' st' => n en' st'
  | o => o
theorem pds_nil : PDSs X Wx [] sNil := ⟨PSs.weak pss_nil fun D σ H ⟨W, en, e, ok, er, q⟩ => by
  subst e; exact q W σ rfl ok (Ext.refl W) er⟩
theorem tDS_seq {t : TS} {D : Ends} {σ : St} {H : Hp} (h : tDS (cn X) Wx (sSeq sm sn) D σ H) : tDS (cn X) Wx sm { D with nx := tDS (cn X) Wx sn D } σ H := by
  obtain ⟨W, en, e, ok, er, q⟩ := h
  subst e
  refine ⟨W, en, rfl, ok, er, ?_⟩
  unfold sSeq at q
  cases h : sm en W.st with
  | nx en' st' =>
    rw [h] at q
    exact fun W' σ' h1 h2 h3 h4 => ⟨W', en', rfl, h2, h4, by subst h1; exact PostS.ext q h3⟩
  | rt d st => rw [h] at q; exact q
  | bk en' st' => rw [h] at q; exact q
  | ct en' st' => rw [h] at q; exact q
  | err x en' st' => rw [h] at q; exact q
  | bad => rw [h] at q; exact q
theorem pds_cons (h1 : PDS X Wx s sm) (h2 : PDSs X Wx rest sn) : PDSs X Wx (s :: rest) (sSeq sm sn) := ⟨PSs.weak (pss_cons h1.ps h2.ps) fun D σ H h => tDS_seq (t := fun _ _ _ => True) h⟩
theorem pds_one (h1 : PDS X Wx s sm) : PDSs X Wx [s] sm := ⟨pss_one h1.ps⟩
def sIf (t : TM) (m n : SM) : SM := fun en st => smb (t en st) en fun k st => if k = true then m en st else n en st
theorem pds_if {A B : List Stmt} (hc : PDT X Wx c tm) (ha : PDSs X Wx A sm) (hb : PDSs X Wx B sn) : PDS X Wx (.If c A B pos) (sIf tm sm sn) := by
  refine ⟨PS.weak (ps_if hc.pt ha.ps hb.ps) fun D σ H ⟨W, en, e, ok, er, q⟩ => ?_⟩
  subst e
  refine seqTS ok er q fun k W1 ok1 e1 er1 q1 => ?_
  cases k with
  | true => rw [if_pos rfl]; exact ⟨W1, en, rfl, ok1, er1, q1⟩
  | false => rw [if_neg Bool.false_ne_true]; exact ⟨W1, en, rfl, ok1, er1, q1⟩
def sRet (m : EM) : SM := fun en st => smb (m en st) en fun d st => .rt d st
theorem pds_ret (h : PD X Wx e m) : PDS X Wx (.Return (some e) pos) (sRet m) := ⟨PS.weak (ps_ret h.pe) fun D σ H ⟨W, en, e, ok, er, q⟩ => by
  subst e
  exact seqS ok er q fun d W1 v ok1 e1 er1 r1 q1 => q1 W1 v rfl ok1 (Ext.refl _) r1⟩
def sRetN : SM := fun en st => .rt .non st
theorem pds_retN : PDS X Wx (.Return none pos) sRetN := ⟨PS.weak ps_retN fun D σ H ⟨W, en, e, ok, er, q⟩ => by
  subst e
  exact q W _ rfl ok (Ext.refl _) .non⟩
def sExpr (m : EM) : SM := fun en st => smb (m en st) en fun d st => .nx en st
theorem pds_expr (h : PD X Wx e m) (hs : swapsWith e none pos.line X.env = pure false := by rfl) : PDS X Wx (.Expr e pos) (sExpr m) := ⟨PS.weak (ps_expr h.pe hs) fun D σ H ⟨W, en, e, ok, er, q⟩ => by
  subst e
  exact seqS ok er q fun d W1 v ok1 e1 er1 r1 q1 => q1 W1 σ rfl ok1 (Ext.refl _) er1⟩
theorem pds_pass : PDS X Wx (.Pass pos) sNil := ⟨PS.weak ps_pass fun D σ H ⟨W, en, e, ok, er, q⟩ => by
  subst e; exact q W σ rfl ok (Ext.refl W) er⟩
def sBreak : SM := fun en st => .bk en st
def sCont : SM := fun en st => .ct en st
theorem pds_break : PDS X Wx (.Break pos) sBreak := ⟨PS.weak ps_break fun D σ H ⟨W, en, e, ok, er, q⟩ => by
  subst e; exact q W σ rfl ok (Ext.refl W) er⟩
theorem pds_cont : PDS X Wx (.Continue pos) sCont := ⟨PS.weak ps_continue fun D σ H ⟨W, en, e, ok, er, q⟩ => by
  subst e; exact q W σ rfl ok (Ext.refl W) er⟩
def sSet (i : Nat) (m : EM) : SM := fun en st => smb (m en st) en fun d st => .nx (en.set i (some d)) st
theorem pds_set {i : Nat} {x : Str} {pos' : Pos} (he : PD X Wx e m) (hN : X.N.Nodup) (hi : X.N[i]? = some x := by rfl) (hx : Loc X.env.scope x := by first | exact Or.inl rfl | exact Or.inr rfl) (hs : swapsWith e (some (.Name x pos')) pos.line X.env = pure false := by rfl)
    (hf : X.fn x = true ∨ X.env.scope.names.lookup x = some .local := by first | exact .inl rfl | exact .inr rfl) : PDS X Wx (.Assign [.Name x pos'] e pos) (sSet i m) :=
  ⟨PS.weak (ps_set hN hi hx he.pe hs hf) fun D σ H ⟨W, en, e, ok, er, q⟩ => by
    subst e
    exact seqS ok er q fun d W1 v ok1 e1 er1 r1 q1 => q1 W1 _ rfl ok1 (Ext.refl _) (er1.set i r1)⟩
/-- a, b = x, y of plain local names -/
def sPar (i j : Nat) (ma mb' : EM) : SM := fun en st => smb (ma en st) en fun d st => smb (mb' en st) en fun d' st => .nx ((en.set i (some d)).set j (some d')) st
theorem pds_par {i j : Nat} {x y : Str} {px py pt : Pos} {kt k2 pt2} (ha : PD X Wx a ma) (hb : PD X Wx b mb') (hc : X.calm = true) (hN : X.N.Nodup) (hi : X.N[i]? = some x := by rfl) (hj : X.N[j]? = some y := by rfl) (hij : i ≠ j := by decide)
    (hx : X.env.scope.names.lookup x = some .local := by rfl) (hy : X.env.scope.names.lookup y = some .local := by rfl)
    (hw : swappedStores [.Tuple [.Name x px, .Name y py] kt pt] (.Tuple [a, b] k2 pt2) X.env = pure (some [x, y]) := by rfl)
    (hs : swapsWithSole [.Tuple [.Name x px, .Name y py] kt pt] (.Tuple [a, b] k2 pt2) pos.line X.env = pure false := by rfl)
    (h1 : starEach (a :: [b]) X.env = (false, eval a X.env) :: starEach [b] X.env := by rfl) (h2 : starEach (b :: []) X.env = (false, eval b X.env) :: starEach [] X.env := by rfl) :
    PDS X Wx (.Assign [.Tuple [.Name x px, .Name y py] kt pt] (.Tuple [a, b] k2 pt2) pos) (sPar i j ma mb') :=
  ⟨PS.weak (ps_par hc hN hi hj hij hx hy (pa_cons ha.pe (pa_cons hb.pe pa_nil h2) h1) hw hs) fun D σ H ⟨W, en, e, ok, er, q⟩ => by
    subst e
    refine seqS ok er q fun d W1 v ok1 e1 er1 r1 q1 => ?_
    refine seqS ok1 er1 q1 fun d' W2 v' ok2 e2 er2 r2 q2 => ?_
    exact ⟨v, v', rfl, q2 W2 _ rfl ok2 (Ext.refl _) ((er2.set i (r1.ext e2)).set j r2)⟩⟩

/-! ## targets -/
abbrev GM := D → En → Sto → Option En
def tDG (C : Cn) (vs : List Nat) (g : GM) : TG := fun v σ H Q => ∃ W en d en', W.H = H ∧ WOk C W ∧ EnvR C W σ en ∧ Rep C W d v ∧ g d en W.st = some en' ∧ ∀ σ', EnvR C W σ' en' → L2.wipe σ' vs = L2.wipe σ vs → Q σ' W.H
structure PDG (X : Cx) (vs : List Nat) (tg : Expr) (g : GM) : Prop where
  pg : PG X tg (tDG (cn X) vs g)
theorem PG.weak {tg : Expr} {t t' : TG} (h : PG X tg t) (f : ∀ v σ H Q, t' v σ H Q → t v σ H Q) : PG X tg t' := ⟨fun pins s σ H v u Q I r q => h.run pins s σ H v u Q I r (f v σ H Q q)⟩
theorem PGs.weak {tg : List Expr} {t t' : TGs} (h : PGs X tg t) (f : ∀ v σ H Q, t' v σ H Q → t v σ H Q) : PGs X tg t' := ⟨fun pins s σ H v u Q I r q => h.run pins s σ H v u Q I r (f v σ H Q q)⟩
theorem wipe_set_mem {σ : St} {i : Nat} {o : Option V} : ∀ {vs : List Nat}, i ∈ vs → L2.wipe (σ.set i o) vs = L2.wipe σ vs
  | v :: vs, h => by
    show (L2.wipe (σ.set i o) vs).set v none = (L2.wipe σ vs).set v none
    by_cases hv : i ∈ vs
    · rw [wipe_set_mem hv]
    · have hi : i = v := by
        rcases List.mem_cons.mp h with z | z
        · exact z
        · exact absurd z hv
      subst hi
      apply List.ext_getElem?
      intro j
      by_cases hj : i = j
      · subst hj
        by_cases hl : i < σ.length
        · rw [List.getElem?_set_self (by rw [L2.wipe_length, List.length_set]; exact hl), List.getElem?_set_self (by rw [L2.wipe_length]; exact hl)]
        · rw [List.getElem?_eq_none (by rw [List.length_set, L2.wipe_length, List.length_set]; omega), List.getElem?_eq_none (by rw [List.length_set, L2.wipe_length]; omega)]
      · rw [List.getElem?_set_ne hj, List.getElem?_set_ne hj]
        by_cases hjv : j ∈ vs
        · have gen : ∀ (ws : List Nat) (τ : St), j ∈ ws → (L2.wipe τ ws)[j]? = if j < τ.length then some none else none := by
            intro ws
            induction ws with
            | nil => intro τ z; cases z
            | cons w ws ih =>
              intro τ z
              show ((L2.wipe τ ws).set w none)[j]? = _
              by_cases hw : w = j
              · subst hw
                by_cases hl : w < τ.length
                · rw [List.getElem?_set_self (by rw [L2.wipe_length]; exact hl), if_pos hl]
                · rw [List.getElem?_eq_none (by rw [List.length_set, L2.wipe_length]; omega), if_neg hl]
              · rw [List.getElem?_set_ne hw]
                rcases List.mem_cons.mp z with z | z
                · exact absurd z.symm hw
                · exact ih τ z
          rw [gen vs _ hjv, gen vs _ hjv, List.length_set]
        · rw [L2.wipe_out hjv, L2.wipe_out hjv, List.getElem?_set_ne hj]
theorem wipe_wipe (σ : St) (vs : List Nat) : L2.wipe (L2.wipe σ vs) vs = L2.wipe σ vs := by
  have gen : ∀ (ws : List Nat), (∀ w ∈ ws, w ∈ vs) → L2.wipe (L2.wipe σ ws) vs = L2.wipe σ vs := by
    intro ws
    induction ws with
    | nil => intro _; rfl
    | cons w ws ih =>
      intro h
      show L2.wipe ((L2.wipe σ ws).set w none) vs = _
      rw [wipe_set_mem (h w List.mem_cons_self)]
      exact ih fun x hx => h x (List.mem_cons_of_mem _ hx)
  exact gen vs fun _ h => h
def gmName (i : Nat) : GM := fun d en _ => some (en.set i (some d))
theorem pdg_name {i : Nat} {x : Str} {vs : List Nat} (hN : X.N.Nodup) (hi : X.N[i]? = some x := by rfl) (hx : Loc X.env.scope x := by first | exact Or.inl rfl | exact Or.inr rfl) (hf : X.fn x = true ∨ X.env.scope.names.lookup x = some .local := by first | exact .inl rfl | exact .inr rfl) (hv : i ∈ vs := by decide) : PDG X vs (.Name x pos) (gmName i) :=
  ⟨PG.weak (pg_name hN hi hx hf) fun v σ H Q ⟨W, en, d, en', e, ok, er, r, hg, q⟩ => by
    subst e
    have hg : some (en.set i (some d)) = some en' := hg
    cases hg
    exact q _ (er.set i r) (wipe_set_mem hv)⟩
def gmAll : List GM → List D → En → Sto → Option En
  | [], [], en, _ => some en
  | g :: gs, d :: ds, en, st => (g d en st).bind fun en' => gmAll gs ds en' st
  | _, _, _, _ => none
def tDGs (C : Cn) (vs : List Nat) (gs : List GM) : TGs := fun us σ H Q => ∃ W en ds en', W.H = H ∧ WOk C W ∧ EnvR C W σ en ∧ RepL C W ds us ∧ gmAll gs ds en W.st = some en' ∧ ∀ σ', EnvR C W σ' en' → L2.wipe σ' vs = L2.wipe σ vs → Q σ' W.H
structure PDGs (X : Cx) (vs : List Nat) (tg : List Expr) (g : List GM) : Prop where
  pg : PGs X tg (tDGs (cn X) vs g)
theorem pdgs_nil {vs : List Nat} : PDGs X vs [] [] := ⟨PGs.weak pgs_nil fun us σ H Q ⟨W, en, ds, en', e, ok, er, r, hg, q⟩ => by
  subst e
  cases ds with
  | nil =>
    have hg : some en = some en' := hg
    cases hg
    exact ⟨r.nil_inv, q _ er rfl⟩
  | cons d ds => cases hg⟩
theorem pdgs_cons {vs : List Nat} {g : GM} {gs : List GM} (h : PDGs X vs es gs) (h1 : PDG X vs e g) (hs : (assignEach (e :: es) X.env).map (·.2) = assign e X.env :: (assignEach es X.env).map (·.2) := by rfl) : PDGs X vs (e :: es) (g :: gs) :=
  ⟨PGs.weak (pgs_cons h1.pg h.pg hs) fun us σ H Q ⟨W, en, ds, en', e, ok, er, r, hg, q⟩ => by
    subst e
    cases ds with
    | nil => cases hg
    | cons d ds =>
      obtain ⟨v, r', e1, h1, h2⟩ := r.cons_inv
      have hg : (g d en W.st).bind (fun en' => gmAll gs ds en' W.st) = some en' := hg
      cases e2 : g d en W.st with
      | none => rw [e2] at hg; cases hg
      | some en1 =>
        rw [e2] at hg
        refine ⟨v, r', e1, W, en, d, en1, rfl, ok, er, h1, e2, fun σ1 er1 w1 => ?_⟩
        exact ⟨W, en1, ds, en', rfl, ok, er1, h2, hg, fun σ2 er2 w2 => q σ2 er2 (w2.trans w1)⟩⟩
theorem gmAll_len : ∀ {gs : List GM} {ds : List D} {en en' : En} {st : Sto}, gmAll gs ds en st = some en' → ds.length = gs.length
  | [], [], _, _, _, _ => rfl
  | [], d :: ds, _, _, _, h => by cases h
  | g :: gs, [], _, _, _, h => by cases h
  | g :: gs, d :: ds, en, en', st, h => by
    have h : (g d en st).bind (fun en' => gmAll gs ds en' st) = some en' := h
    cases e : g d en st with
    | none => rw [e] at h; cases h
    | some en1 => rw [e] at h; rw [List.length_cons, List.length_cons, gmAll_len (en := en1) h]
def gmTup (gs : List GM) : GM := fun d en st => match d with | .tup ds => gmAll gs ds en st | _ => none
def gmLst (gs : List GM) : GM := fun d en st => match d with | .lst ds => gmAll gs ds en st | _ => none
theorem pdg_tup {vs : List Nat} {k : Nat} {gs : List GM} (h : PDGs X vs es gs) (hc : X.calm = true) (hn : (assignEach es X.env).length = gs.length := by rfl) (hst : (assignEach es X.env).findIdx? (·.1) = none := by rfl) : PDG X vs (.Tuple es k pos) (gmTup gs) :=
  ⟨PG.weak (pg_tup hc h.pg hn hst) fun v σ H Q ⟨W, en, d, en', e, ok, er, r, hg, q⟩ => by
    subst e
    cases d with
    | tup ds =>
      obtain ⟨a, xs, ev, ht, hr⟩ := r.tup_inv
      exact ⟨a, xs, ev, ht.sq, by rw [← hr.length]; exact gmAll_len hg, W, en, ds, en', rfl, ok, er, hr, hg, q⟩
    | _ => cases hg⟩
theorem pdg_lst {vs : List Nat} {k : Nat} {gs : List GM} (h : PDGs X vs es gs) (hc : X.calm = true) (hn : (assignEach es X.env).length = gs.length := by rfl) (hst : (assignEach es X.env).findIdx? (·.1) = none := by rfl) : PDG X vs (.Tuple es k pos) (gmLst gs) :=
  ⟨PG.weak (pg_lst hc h.pg hn hst) fun v σ H Q ⟨W, en, d, en', e, ok, er, r, hg, q⟩ => by
    subst e
    cases d with
    | lst ds =>
      obtain ⟨a, xs, ev, ht, hr⟩ := r.lst_inv
      exact ⟨a, xs, ev, ht.sq, by rw [← hr.length]; exact gmAll_len hg, W, en, ds, en', rfl, ok, er, hr, hg, q⟩
    | _ => cases hg⟩
/-- target = value -/
def sAsg (g : GM) (m : EM) : SM := fun en st => smb (m en st) en fun d st => match g d en st with | some en' => .nx en' st | none => .bad
theorem pds_asg {tg : Expr} {vs : List Nat} {g : GM} (he : PD X Wx e m) (hg : PDG X vs tg g) (hs : swapsWithSole [tg] e pos.line X.env = pure false := by rfl) (hw : swappedStores [tg] e X.env = pure none := by rfl)
    (h1 : (assignEach [tg] X.env).map (·.2) = [assign tg X.env] := by rfl) : PDS X Wx (.Assign [tg] e pos) (sAsg g m) :=
  ⟨PS.weak (ps_asg he.pe hg.pg hs hw h1) fun D σ H ⟨W, en, e, ok, er, q⟩ => by
    subst e
    refine seqS ok er q fun d W1 v ok1 e1 er1 r1 q1 => ?_
    cases e2 : g d en W1.st with
    | none => rw [e2] at q1; exact q1.elim
    | some en' => rw [e2] at q1; exact ⟨W1, en, d, en', rfl, ok1, er1, r1, e2, fun σ' er' _ => q1 W1 σ' rfl ok1 (Ext.refl _) er'⟩⟩
/-- name op= e -/
def sAug (i : Nat) (g : D → D → Sto → Option D) (m : EM) : SM := fun en st => match en[i]? with
  | some (some x) => smb (m en st) en fun y st => match g x y st with | some z => .nx (en.set i (some z)) st | none => .bad
  | _ => .bad
theorem pds_aug {i : Nat} {x : Str} {pos' : Pos} {op : Operator} {g : D → D → Sto → Option D} (he : PD X Wx e m) (ho : OpD X (inplaceOp op) g) (hN : X.N.Nodup) (hi : X.N[i]? = some x := by rfl) (hx : Loc X.env.scope x := by first | exact Or.inl rfl | exact Or.inr rfl)
    (hf : X.fn x = true ∨ X.env.scope.names.lookup x = some .local := by first | exact .inl rfl | exact .inr rfl) : PDS X Wx (.AugAssign (.Name x pos') op e pos) (sAug i g m) :=
  ⟨PS.weak (ps_aug hN hi hx he.pe (ti := rD2 (cn X) g) (fun pins s σ H x y v u Q I rx ry q => ho pins s σ H x y v u Q I rx ry q) hf) fun D σ H ⟨W, en, e, ok, er, q⟩ => by
    subst e
    unfold sAug at q
    cases hx' : en[i]? with
    | none => rw [hx'] at q; exact q.elim
    | some o =>
      cases o with
      | none => rw [hx'] at q; exact q.elim
      | some dx =>
        rw [hx'] at q
        obtain ⟨v, h1, h2⟩ := er.2 i dx hx'
        refine ⟨v, h1, ?_⟩
        refine seqS ok er q fun d W1 u ok1 e1 er1 r1 q1 => ?_
        cases e2 : g dx d W1.st with
        | none => rw [e2] at q1; exact q1.elim
        | some z =>
          rw [e2] at q1
          exact ⟨W1, dx, d, z, rfl, ok1, h2.ext e1, r1, e2, fun W2 w hs ok2 x2 r2 => q1 W2 _ hs ok2 x2 ((er1.ext x2).set i r2)⟩⟩
/-- cell[k] = e -/
def ixN (n : Nat) (i : Int) : Option Nat := L2.ixN n i
def sSetIx (mo mi m : EM) : SM := fun en st => smb (m en st) en fun d st => smb (mo en st) en fun o st => smb (mi en st) en fun i st => match o, i with
  | .cell n, .int k => match st[n]? with
    | some (.lst ds) => match ixN ds.length k with
      | some j => .nx en (st.set n (.lst (ds.set j d)))
      | none => .bad
    | _ => .bad
  | _, _ => .bad
theorem pds_setIx {o i : Expr} {mo mi : EM} {pos' : Pos} (he : PD X Wx e m) (ho : PD X Wx o mo) (hi : PD X Wx i mi) (ha : ∀ v, assign (.Subscript o i pos') X.env v = (do
      let ov ← holding [v] (eval o X.env)
      let iv ← holding [v, ov] (eval i X.env)
      standAt pos'
      holding [v, ov, iv] (setItem ov iv v)
      release [v, ov, iv] []) := by intro _; rfl) (hs : swapsWithSole [.Subscript o i pos'] e pos.line X.env = pure false := by rfl) (hw : swappedStores [.Subscript o i pos'] e X.env = pure none := by rfl)
    (h1 : (assignEach [.Subscript o i pos'] X.env).map (·.2) = [assign (.Subscript o i pos') X.env] := by rfl) : PDS X Wx (.Assign [.Subscript o i pos'] e pos) (sSetIx mo mi m) :=
  ⟨PS.weak (ps_asg he.pe (pg_sub ho.pe hi.pe set_list ha) hs hw h1) fun D σ H ⟨W, en, e, ok, er, q⟩ => by
    subst e
    refine seqS ok er q fun d W1 v ok1 e1 er1 r1 q1 => ?_
    refine seqS ok1 er1 q1 fun dO W2 vo ok2 e2 er2 r2 q2 => ?_
    refine seqS ok2 er2 q2 fun dI W3 vi ok3 e3 er3 r3 q3 => ?_
    cases dO with
    | cell n =>
      cases dI with
      | int k =>
        simp only at q3
        cases hst : W3.st[n]? with
        | none => rw [hst] at q3; exact q3.elim
        | some c =>
          rw [hst] at q3
          cases c with
          | lst ds =>
            simp only at q3
            cases hj : ixN ds.length k with
            | none => rw [hj] at q3; exact q3.elim
            | some j =>
              rw [hj] at q3
              obtain ⟨a, xs, rfl, hA, hH, hr⟩ := cell_lst ok3 (r2.ext e3) hst
              refine ⟨a, xs, k, j, rfl, r3.int_inv, hH, by rw [← hr.length]; exact hj, ?_⟩
              exact q3 (W3.put n a (.lst (xs.set j v)) (.lst (ds.set j d))) σ rfl (put_lst_ok ok3 hA hst nofun (hr.set j ((r1.ext e2).ext e3))) (put_ext ok3 hA hst nofun _ _) (er3.ext (put_ext ok3 hA hst nofun _ _))
          | dct ks ds => exact q3.elim
          | dead => exact q3.elim
      | _ => exact q3.elim
    | _ => exact q3.elim⟩
end
end Pd

namespace Pd
open PySem PySem.Spec L2

/-! ## what is walked -/
abbrev IM := En → Sto → Out (List D)
def PostI (C : Cn) (Wx : WX) (W : Wd) (σ : St) (R : It → Hp → Prop) : Out (List D) → Prop
  | .ok ds st' => ∀ (W1 : Wd) (J : It) (Y : Nat → Hp → V → Hp → Prop) (G : Hp → Prop), W1.st = st' → WOk C W1 → Ext W W1 → Walk J ds.length G Y → (∀ W2, WOk C W2 → Mn W1 W2 → G W2.H) →
      (∀ (i : Nat) (W2 : Wd) (x : V) (H' : Hp), i < ds.length → WOk C W2 → Mn W1 W2 → Y i W2.H x H' → ∃ W3 d, W3.H = H' ∧ W3.st = W2.st ∧ WOk C W3 ∧ Ext W2 W3 ∧ ds[i]? = some d ∧ Rep C W3 d x) → R J W1.H
  | .err e st' => ∀ W' cls dd, W'.st = st' → WOk C W' → Ext W W' → ExR C W' e cls dd → Wx cls dd σ W'.H
  | .bad => False
def tDI (C : Cn) (Wx : WX) (m : IM) : TI := fun σ H R => ∃ W en, W.H = H ∧ WOk C W ∧ EnvR C W σ en ∧ PostI C Wx W σ R (m en W.st)
structure PDI (X : Cx) (Wx : WX) (tg e : Expr) (m : IM) : Prop where
  pi : PI X tg e (tDI (cn X) Wx m)
theorem PI.weak {X : Cx} {tg e : Expr} {t t' : TI} (h : PI X tg e t) (f : ∀ σ H R, t' σ H R → t σ H R) : PI X tg e t' := ⟨fun pins s σ H R I q => h.run pins s σ H R I (f σ H R q)⟩
theorem PostI.ext {C : Cn} {Wx : WX} {W W' : Wd} {σ : St} {R : It → Hp → Prop} {o : Out (List D)} (h : PostI C Wx W σ R o) (e : Ext W W') : PostI C Wx W' σ R o := by
  cases o with
  | ok ds st => exact fun W1 J Y G h1 h2 h3 => h W1 J Y G h1 h2 (e.trans h3)
  | err x st => exact fun W2 c dd h1 h2 h3 => h W2 c dd h1 h2 (e.trans h3)
  | bad => exact h
theorem seqI {C : Cn} {Wx : WX} {W : Wd} {σ : St} {en : En} {m : EM} {f : D → Sto → Out (List D)} {Q : It → Hp → Prop} {R : VK} (ok : WOk C W) (er : EnvR C W σ en) (h : PostI C Wx W σ Q (mb (m en W.st) f))
    (hok : ∀ d W' v, WOk C W' → Ext W W' → EnvR C W' σ en → Rep C W' d v → PostI C Wx W' σ Q (f d W'.st) → R v W'.H) : tD C Wx m σ W.H R := by
  refine ⟨W, en, rfl, ok, er, ?_⟩
  cases e : m en W.st with
  | ok d st =>
    rw [e] at h
    exact fun W' v h1 h2 h3 h4 => hok d W' v h2 h3 (er.ext h3) h4 (by subst h1; exact PostI.ext h h3)
  | err x st => rw [e] at h; exact h
  | bad => rw [e] at h; exact h
theorem seqLI {C : Cn} {Wx : WX} {W : Wd} {σ : St} {en : En} {m : LM} {f : List D → Sto → Out (List D)} {Q : It → Hp → Prop} {R : List V → Hp → Prop} (ok : WOk C W) (er : EnvR C W σ en) (h : PostI C Wx W σ Q (mb (m en W.st) f))
    (hok : ∀ d W' v, WOk C W' → Ext W W' → EnvR C W' σ en → RepL C W' d v → PostI C Wx W' σ Q (f d W'.st) → R v W'.H) : tDL C Wx m σ W.H R := by
  refine ⟨W, en, rfl, ok, er, ?_⟩
  cases e : m en W.st with
  | ok d st =>
    rw [e] at h
    exact fun W' v h1 h2 h3 h4 => hok d W' v h2 h3 (er.ext h3) h4 (by subst h1; exact PostI.ext h h3)
  | err x st => rw [e] at h; exact h
  | bad => rw [e] at h; exact h
theorem LstAt.mn {K : PySem.W.Frag} {W W' : Wd} {a : Addr} {xs : List V} (h : LstAt K W a xs) (e : Mn W W') : LstAt K W' a xs := e.keep a _ h.1 h.2
theorem TupAt.mn {K : PySem.W.Frag} {W W' : Wd} {a : Addr} {xs : List V} (h : TupAt K W a xs) (e : Mn W W') : TupAt K W' a xs := by
  rcases h with ⟨h1, h2⟩ | h
  · exact .inl (Rd.mn e h1 h2)
  · exact .inr h
section
variable {X : Cx} {Wx : WX} {pos : Pos} {e a b c tg iter : Expr} {es : List Expr} {m ma mb' : EM} {lm : LM} {im : IM}
def iLst (m : EM) : IM := fun en st => mb (m en st) fun d st => match d with | .lst ds => .ok ds st | _ => .bad
def iTup (m : EM) : IM := fun en st => mb (m en st) fun d st => match d with | .tup ds => .ok ds st | _ => .bad
theorem pdi_lst (h : PD X Wx e m) : PDI X Wx tg e (iLst m) := ⟨PI.weak (pi_list h.pe) fun σ H R ⟨W, en, e, ok, er, q⟩ => by
  subst e
  refine seqI ok er q fun d W1 v ok1 e1 er1 r1 q1 => ?_
  cases d with
  | lst ds =>
    obtain ⟨a, xs, rfl, hl, hr⟩ := r1.lst_inv
    refine ⟨a, rfl, ⟨xs, hl.sq⟩, ?_⟩
    refine q1 W1 _ _ (fun H => SqL X.K H a xs) rfl ok1 (Ext.refl _) (by rw [hr.length]; exact walk_list) (fun W2 ok2 e2 => (hl.mn e2).sq) fun i W2 x H' hi ok2 e2 y => ?_
    obtain ⟨rfl, hx⟩ := y
    obtain ⟨d, hd, hrd⟩ := hr.getV hx
    exact ⟨W2, d, rfl, rfl, ok2, Ext.refl _, hd, hrd.mn e2⟩
  | _ => exact q1.elim⟩
theorem pdi_tup (h : PD X Wx e m) : PDI X Wx tg e (iTup m) := ⟨PI.weak (pi_tup h.pe) fun σ H R ⟨W, en, e, ok, er, q⟩ => by
  subst e
  refine seqI ok er q fun d W1 v ok1 e1 er1 r1 q1 => ?_
  cases d with
  | tup ds =>
    obtain ⟨a, xs, rfl, hl, hr⟩ := r1.tup_inv
    refine ⟨a, rfl, ⟨xs, hl.sq⟩, ?_⟩
    refine q1 W1 _ _ (fun H => SqT X.K H a xs) rfl ok1 (Ext.refl _) (by rw [hr.length]; exact walk_tup) (fun W2 ok2 e2 => (hl.mn e2).sq) fun i W2 x H' hi ok2 e2 y => ?_
    obtain ⟨rfl, hx⟩ := y
    obtain ⟨d, hd, hrd⟩ := hr.getV hx
    exact ⟨W2, d, rfl, rfl, ok2, Ext.refl _, hd, hrd.mn e2⟩
  | _ => exact q1.elim⟩
/-- range(n), range(a, b) -/
def rng (lo : Int) (n : Nat) : List D := (List.range n).map fun i => D.int (lo + (i : Nat))
theorem rng_len (lo : Int) (n : Nat) : (rng lo n).length = n := by simp [rng]
theorem rng_get {lo : Int} {n i : Nat} (h : i < n) : (rng lo n)[i]? = some (.int (lo + (i : Nat))) := by simp [rng, h]
def iRng1 (m : EM) : IM := fun en st => mb (m en st) fun d st => match d with
  | .int j => if -(2 ^ 62) ≤ j ∧ j < 2 ^ 62 then .ok (rng 0 j.toNat) st else .bad
  | _ => .bad
def iRng2 (ma mb' : EM) : IM := fun en st => mb (ma en st) fun d st => mb (mb' en st) fun d' st => match d, d' with
  | .int i, .int j => if -(2 ^ 62) ≤ i ∧ i < 2 ^ 62 ∧ -(2 ^ 62) ≤ j ∧ j < 2 ^ 62 then .ok (rng i (j - i).toNat) st else .bad
  | _, _ => .bad
theorem rng_walk {C : Cn} {Wx : WX} {W1 : Wd} {σ : St} {R : It → Hp → Prop} {lo : Int} {n : Nat} (ok1 : WOk C W1) (q1 : PostI C Wx W1 σ R (.ok (rng lo n) W1.st)) : R (Itr lo n) W1.H := by
  refine q1 W1 (Itr lo n) _ (fun _ => True) rfl ok1 (Ext.refl _) (by rw [rng_len]; exact walk_range) (fun _ _ _ => trivial) fun i W2 x H' hi ok2 e2 y => ?_
  obtain ⟨rfl, rfl⟩ := y
  rw [rng_len] at hi
  exact ⟨W2, _, rfl, rfl, ok2, Ext.refl _, rng_get hi, .int _⟩
theorem pdi_rng1 {p : Pos} (h : PD X Wx a m) (hm : X.mg "range" = none) (hg : Gl X "range" := by rfl) (hs : starEach [a] X.env = [(false, eval a X.env)] := by rfl) : PDI X Wx tg (.Call (.Name "range" p) [a] [] pos) (iRng1 m) :=
  ⟨PI.weak (pi_range1 hg hm (pa_cons h.pe pa_nil hs) hs) fun σ H R ⟨W, en, e, ok, er, q⟩ => by
    subst e
    refine seqI ok er q fun d W1 v ok1 e1 er1 r1 q1 => ?_
    cases d with
    | int j =>
      simp only at q1
      by_cases hj : -(2 ^ 62) ≤ j ∧ j < 2 ^ 62
      · rw [if_pos hj] at q1
        exact ⟨j, by rw [r1.int_inv], hj.1, hj.2, rng_walk ok1 q1⟩
      · rw [if_neg hj] at q1; exact q1.elim
    | _ => exact q1.elim⟩
theorem pdi_rng2 {p : Pos} (h : PD X Wx a ma) (h' : PD X Wx b mb') (hm : X.mg "range" = none) (hg : Gl X "range" := by rfl) (hs : starEach [a, b] X.env = [(false, eval a X.env), (false, eval b X.env)] := by rfl) (hs2 : starEach [b] X.env = [(false, eval b X.env)] := by rfl)
    (h1 : starEach (a :: [b]) X.env = (false, eval a X.env) :: starEach [b] X.env := by rfl) : PDI X Wx tg (.Call (.Name "range" p) [a, b] [] pos) (iRng2 ma mb') :=
  ⟨PI.weak (pi_range2 hg hm (pa_cons h.pe (pa_cons h'.pe pa_nil hs2) h1) hs hs2) fun σ H R ⟨W, en, e, ok, er, q⟩ => by
    subst e
    refine seqI ok er q fun d W1 v ok1 e1 er1 r1 q1 => ?_
    refine seqI ok1 er1 q1 fun d' W2 v' ok2 e2 er2 r2 q2 => ?_
    cases d with
    | int i =>
      cases d' with
      | int j =>
        simp only at q2
        by_cases hj : -(2 ^ 62) ≤ i ∧ i < 2 ^ 62 ∧ -(2 ^ 62) ≤ j ∧ j < 2 ^ 62
        · rw [if_pos hj] at q2
          exact ⟨i, j, by rw [r1.int_inv, r2.int_inv], hj, rng_walk ok2 q2⟩
        · rw [if_neg hj] at q2; exact q2.elim
      | _ => exact q2.elim
    | _ => exact q2.elim⟩
/-- a text, sign by sign -/
def signs (z : Str) : List D := z.cps.toList.map fun c => D.str ⟨#[c]⟩
def iStr (m : EM) : IM := fun en st => mb (m en st) fun d st => match d with | .str z => .ok (signs z) st | _ => .bad
theorem pdi_str (h : PD X Wx e m) : PDI X Wx tg e (iStr m) := ⟨PI.weak (pi_str h.pe) fun σ H R ⟨W, en, e, ok, er, q⟩ => by
  subst e
  refine seqI ok er q fun d W1 v ok1 e1 er1 r1 q1 => ?_
  cases d with
  | str z =>
    refine ⟨z, r1.str_inv, ?_⟩
    refine q1 W1 (Its z) _ (fun _ => True) rfl ok1 (Ext.refl _) (by show Walk _ (z.cps.toList.map _).length _ _; rw [List.length_map, Array.length_toList]; exact walk_str) (fun _ _ _ => trivial) fun i W2 x H' hi ok2 e2 y => ?_
    obtain ⟨rfl, ch, hc, rfl⟩ := y
    refine ⟨W2, _, rfl, rfl, ok2, Ext.refl _, ?_, .str _⟩
    show (z.cps.toList.map _)[i]? = _
    rw [List.getElem?_map, Array.getElem?_toList, hc] <;> rfl
  | _ => exact q1.elim⟩
/-- enumerate(list) -/
def enums (n : Int) : List D → List D
  | [] => []
  | d :: ds => .tup [.int n, d] :: enums (n + 1) ds
theorem enums_len : ∀ (n : Int) (ds : List D), (enums n ds).length = ds.length
  | _, [] => rfl
  | n, d :: ds => by unfold enums; rw [List.length_cons, List.length_cons, enums_len]
theorem enums_get : ∀ {n : Int} {ds : List D} {i : Nat} {d : D}, ds[i]? = some d → (enums n ds)[i]? = some (.tup [.int (n + (i : Nat)), d])
  | _, [], _, _, h => by simp at h
  | n, d :: ds, 0, _, h => by simp at h; subst h; simp [enums]
  | n, d :: ds, i + 1, _, h => by
    simp at h
    show (enums (n + 1) ds)[i]? = _
    rw [enums_get h]
    congr 4
    show n + 1 + (i : Int) = n + ((i + 1 : Nat) : Int)
    omega
def iEnumL (m : EM) : IM := fun en st => mb (m en st) fun d st => match d with | .lst ds => .ok (enums 0 ds) st | _ => .bad
end

/-! ## for, while -/
section
variable {X : Cx} {Wx : WX} {pos : Pos} {e a b c tg iter : Expr} {body : List Stmt} {im : IM} {gm : GM} {bm : SM} {vs : List Nat} {tm : TM}
def forLoop (g : GM) (body : SM) : List D → En → Sto → SOut
  | [], en, st => .nx en st
  | d :: ds, en, st => match g d en st with
    | none => .bad
    | some en' => match body en' st with
      | .nx en'' st'' => forLoop g body ds en'' st''
      | .ct en'' st'' => forLoop g body ds en'' st''
      | .bk en'' st'' => .nx en'' st''
      | o => o
def sFor (im : IM) (g : GM) (body : SM) : SM := fun en st => smb (im en st) en fun ds st => forLoop g body ds en st
theorem pds_for (hi : PDI X Wx tg iter im) (hg : PDG X vs tg gm) (hb : PDSs X Wx body bm) (hp : PassesOwn (model X.prog X.w) X.A X.env X.xe) (hc : X.calm = true) (hs : ∀ x, foldedSetIterable iter X.env x = pure x := by intro _; rfl) : PDS X Wx (.For tg iter body [] pos) (sFor im gm bm) :=
  ⟨PS.weak (ps_for hp hc hi.pi hg.pg hb.ps hs) fun Dn σ H ⟨W, en, e, ok, er, q⟩ => by
    subst e
    refine ⟨W, en, rfl, ok, er, ?_⟩
    unfold sFor at q
    cases hm : im en W.st with
    | err x st => rw [hm] at q; exact fun W' c dd h1 h2 h3 h4 => q W' σ c dd h1 h2 h3 (er.ext h3) h4
    | bad => rw [hm] at q; exact q.elim
    | ok ds st' =>
      rw [hm] at q
      intro W1 J Y G hs1 ok1 e1 wk hG hY
      have q1 : PostS (cn X) Wx W1 Dn (forLoop gm bm ds en W1.st) := by subst hs1; exact PostS.ext q e1
      refine for_it wk (fun i σ' H' => ∃ W2 en2, W2.H = H' ∧ WOk (cn X) W2 ∧ Ext W1 W2 ∧ EnvR (cn X) W2 σ' en2 ∧ PostS (cn X) Wx W2 Dn (forLoop gm bm (ds.drop i) en2 W2.st)) ⟨W1, en, rfl, ok1, Ext.refl _, er.ext e1, q1⟩ ?_ ?_ ?_
      · rintro i σ' H' _ ⟨W2, en2, rfl, ok2, e2, _, _⟩
        exact hG W2 ok2 e2.mn
      · rintro i x σ' H' H'' hi ⟨W2, en2, rfl, ok2, e2, er2, q2⟩ y
        obtain ⟨W3, d, h3, hs3, ok3, e3, hd, hr⟩ := hY i W2 x H'' hi ok2 e2.mn y
        have hdr : ds.drop i = d :: ds.drop (i + 1) := by
          obtain ⟨hl, hd'⟩ := List.getElem?_eq_some_iff.mp hd
          rw [List.drop_eq_getElem_cons hl, hd']
        rw [hdr] at q2
        have q3 : PostS (cn X) Wx W3 Dn (forLoop gm bm (d :: ds.drop (i + 1)) en2 W3.st) := by rw [hs3]; exact PostS.ext q2 e3
        unfold forLoop at q3
        cases hg' : gm d en2 W3.st with
        | none => rw [hg'] at q3; exact q3.elim
        | some en3 =>
          rw [hg'] at q3
          refine ⟨W3, en2, d, en3, h3, ok3, er2.ext e3, hr, hg', fun σ3 er3 _ => ⟨W3, en3, rfl, ok3, er3, ?_⟩⟩
          simp only at q3
          cases hbm : bm en3 W3.st with
          | nx en4 st4 =>
            rw [hbm] at q3
            exact fun W4 σ4 h1 h2 h3 h4 => ⟨W4, en4, rfl, h2, (e2.trans e3).trans h3, h4, by subst h1; exact PostS.ext q3 h3⟩
          | ct en4 st4 =>
            rw [hbm] at q3
            exact fun W4 σ4 h1 h2 h3 h4 => ⟨W4, en4, rfl, h2, (e2.trans e3).trans h3, h4, by subst h1; exact PostS.ext q3 h3⟩
          | bk en4 st4 => rw [hbm] at q3; exact q3
          | rt d st4 => rw [hbm] at q3; exact q3
          | err x en4 st4 => rw [hbm] at q3; exact q3
          | bad => rw [hbm] at q3; exact q3
      · rintro σ' H' ⟨W2, en2, rfl, ok2, e2, er2, q2⟩
        rw [List.drop_length] at q2
        exact q2 W2 σ' rfl ok2 (Ext.refl _) er2⟩
def whileLoop (c : TM) (body : SM) : Nat → En → Sto → SOut
  | 0, _, _ => .bad
  | n + 1, en, st => smb (c en st) en fun k st => if k = true then (match body en st with
      | .nx en'' st'' => whileLoop c body n en'' st''
      | .ct en'' st'' => whileLoop c body n en'' st''
      | .bk en'' st'' => .nx en'' st''
      | o => o) else .nx en st
def sWhile (fuel : Nat) (c : TM) (body : SM) : SM := fun en st => whileLoop c body fuel en st
theorem pds_while (fuel : Nat) (hc : PDT X Wx c tm) (hb : PDSs X Wx body bm) (hp : PassesOwn (model X.prog X.w) X.A X.env X.xe) : PDS X Wx (.While c body [] pos) (sWhile fuel tm bm) :=
  ⟨PS.weak (ps_while hp hc.pt hb.ps) fun Dn σ H ⟨W, en, e, ok, er, q⟩ => by
    subst e
    refine ⟨fun n σ' H' => ∃ W2 en2, W2.H = H' ∧ WOk (cn X) W2 ∧ EnvR (cn X) W2 σ' en2 ∧ PostS (cn X) Wx W2 Dn (whileLoop tm bm n en2 W2.st), ⟨fuel, W, en, rfl, ok, er, q⟩, ?_⟩
    rintro n σ' H' ⟨W2, en2, rfl, ok2, er2, q2⟩
    cases n with
    | zero => exact q2.elim
    | succ n =>
      unfold whileLoop at q2
      refine seqTS ok2 er2 q2 fun k W3 ok3 e3 er3 q3 => ?_
      cases k with
      | false => rw [if_neg Bool.false_ne_true]; exact q3 W3 σ' rfl ok3 (Ext.refl _) er3
      | true =>
        rw [if_pos rfl]
        refine ⟨fun σ'' H'' => ∃ W2 en2, W2.H = H'' ∧ WOk (cn X) W2 ∧ EnvR (cn X) W2 σ'' en2 ∧ PostS (cn X) Wx W2 Dn (whileLoop tm bm n en2 W2.st), fun σ'' H'' h => ⟨n, Nat.lt_succ_self _, h⟩, W3, en2, rfl, ok3, er3, ?_⟩
        simp only [if_true] at q3
        cases hbm : bm en2 W3.st with
        | nx en4 st4 =>
          rw [hbm] at q3
          exact fun W4 σ4 h1 h2 h3 h4 => ⟨W4, en4, rfl, h2, h4, by subst h1; exact PostS.ext q3 h3⟩
        | ct en4 st4 =>
          rw [hbm] at q3
          exact fun W4 σ4 h1 h2 h3 h4 => ⟨W4, en4, rfl, h2, h4, by subst h1; exact PostS.ext q3 h3⟩
        | bk en4 st4 => rw [hbm] at q3; exact q3
        | rt d st4 => rw [hbm] at q3; exact q3
        | err x en4 st4 => rw [hbm] at q3; exact q3
        | bad => rw [hbm] at q3; exact q3⟩
end

/-! ## list comprehensions -/
section
variable {X : Cx} {Wx : WX} {pos : Pos} {elt tg iter : Expr} {ifs : List Expr} {im : IM} {gm : GM} {em : EM} {tm : TM}
abbrev WF : WX := fun _ _ _ _ => False
structure PDTs (X : Cx) (Wx : WX) (ifs : List Expr) (m : TM) : Prop where
  pts : PTs X ifs (tDT (cn X) Wx m)
theorem PTs.weak {ifs : List Expr} {t t' : TT} (h : PTs X ifs t) (f : ∀ σ H Q, t' σ H Q → t σ H Q) : PTs X ifs t' := ⟨fun pins s σ H Q I q => h.run pins s σ H Q I (f σ H Q q)⟩
def tmYes : TM := fun _ st => .ok true st
theorem pdts_nil : PDTs X Wx [] tmYes := ⟨PTs.weak pts_nil fun σ H Q ⟨W, en, e, ok, er, q⟩ => by subst e; exact q W rfl ok (Ext.refl _)⟩
theorem pdts_one {c : Expr} (h : PDT X Wx c tm) : PDTs X Wx [c] tm := ⟨pts_one h.pt⟩
def wipeEn (vs : List Nat) (en : En) : En := vs.foldr (fun v e => e.set v none) en
def lcLoop (gm : GM) (tm : TM) (em : EM) (en : En) : List D → List D → Sto → Out (List D)
  | [], acc, st => .ok acc st
  | d :: ds, acc, st => match gm d en st with
    | none => .bad
    | some en' => match tm en' st with
      | .ok true st' => match em en' st' with
        | .ok d st'' => if acc.length < sizeLine then lcLoop gm tm em en ds (acc ++ [d]) st'' else .bad
        | _ => .bad
      | .ok false st' => lcLoop gm tm em en ds acc st'
      | _ => .bad
theorem lcLoop_cons (gm : GM) (tm : TM) (em : EM) (en : En) (d : D) (ds acc : List D) (st : Sto) : lcLoop gm tm em en (d :: ds) acc st = (match gm d en st with
    | none => .bad
    | some en' => match tm en' st with
      | .ok true st' => match em en' st' with
        | .ok d st'' => if acc.length < sizeLine then lcLoop gm tm em en ds (acc ++ [d]) st'' else .bad
        | _ => .bad
      | .ok false st' => lcLoop gm tm em en ds acc st'
      | _ => .bad) := rfl
def finL : List D → Sto → Out D := fun acc st => .ok (.lst acc) st
def finC : List D → Sto → Out D := fun acc st => .ok (.cell st.length) (st ++ [Cel.lst acc])
def mLc (im : IM) (gm : GM) (tm : TM) (em : EM) (vs : List Nat) : EM := fun en st => mb (im en st) fun ds st => mb (lcLoop gm tm em (wipeEn vs en) ds [] st) finL
def mLcC (im : IM) (gm : GM) (tm : TM) (em : EM) (vs : List Nat) : EM := fun en st => mb (im en st) fun ds st => mb (lcLoop gm tm em (wipeEn vs en) ds [] st) finC
/-- the list that is being made: not yet a datum -/
structure Mk1 (C : Cn) (W1 : Wd) (D' : Addr) (W2 : Wd) (acc : List D) (xs : List V) : Prop where
  ok : WOk C W2
  hid : W2.hid = D' :: W1.hid
  pre : W1.A <+: W2.A
  keep : ∀ a o, W1.H a = some o → ¬ CLive W1 a → W2.H a = some o ∧ ¬ CLive W2 a
  at_ : W2.H D' = some (.lst xs)
  nl : ¬ CLive W2 D'
  rep : RepL C W2 acc xs
  new : ∀ a, a ∈ W2.A → a ∈ W1.A ∨ W1.H a = none
  nA : D' ∉ W2.A
theorem Mk1.mn {C : Cn} {W1 W2 : Wd} {D' : Addr} {acc : List D} {xs : List V} (m : Mk1 C W1 D' W2 acc xs) (hD : W1.H D' = none) : Mn W1 W2 :=
  ⟨m.pre, fun a o h n => by
    obtain ⟨h1, h2⟩ := m.keep a o h fun z => n (.inl z)
    refine ⟨h1, fun z => ?_⟩
    rcases z with z | z
    · exact h2 z
    · rw [m.hid] at z
      rcases List.mem_cons.mp z with z | z
      · subst z; rw [hD] at h; cases h
      · exact n (.inr z)⟩
theorem WOk.mk' {C : Cn} {W W' : Wd} (ok : WOk C W) (hA : W'.A = W.A) (hst : W'.st = W.st) (m : Mn W W') (hH : ∀ (n : Nat) (a : Addr) (c : Cel), W.A[n]? = some a → W.st[n]? = some c → c ≠ .dead → W'.H a = W.H a) (ht : ∀ a, W.H a ≠ none → W'.H a ≠ none) (hh : ∀ a ∈ W'.hid, W'.H a ≠ none) : WOk C W' := by
  refine ⟨by rw [hA, hst]; exact ok.len, by rw [hA]; exact ok.nd, fun n a c h1 h2 => ?_, hh⟩
  rw [hA] at h1
  rw [hst] at h2
  have h := ok.at_ n a c h1 h2
  cases c with
  | lst ds => obtain ⟨xs, q, r⟩ := h; exact ⟨xs, by rw [hH n a _ h1 h2 nofun]; exact q, r.mn m⟩
  | dct ks ds => obtain ⟨xs, q, l, r⟩ := h; exact ⟨xs, by rw [hH n a _ h1 h2 nofun]; exact q, l, r.mn m⟩
  | dead => exact ht a h
theorem Mk1.start {C : Cn} {W1 : Wd} {D' : Addr} (ok : WOk C W1) (hD : W1.H D' = none) : Mk1 C W1 D' { W1 with H := upd W1.H D' (.lst []), hid := D' :: W1.hid } [] [] := by
  have nl : ¬ Live W1 D' := ok.not_live hD
  have m : Mn W1 { W1 with H := upd W1.H D' (.lst []), hid := D' :: W1.hid } := by
    refine ⟨List.prefix_refl _, fun a o h n => ⟨by show upd W1.H D' _ a = _; rw [upd_ne (ne_of_none h hD)]; exact h, fun z => ?_⟩⟩
    rcases z with z | z
    · exact n (.inl z)
    · rcases List.mem_cons.mp z with z | z
      · subst z; rw [hD] at h; cases h
      · exact n (.inr z)
  refine ⟨ok.mk' rfl rfl m (fun n a c h1 h2 _ => ?_) (fun a h => ?_) (fun a h => ?_), rfl, List.prefix_refl _, fun a o h n => ⟨by show upd W1.H D' _ a = _; rw [upd_ne (ne_of_none h hD)]; exact h, n⟩, upd_same, fun z => nl (.inl z), .nil, fun _ h => .inl h, ok.fresh hD⟩
  · show upd W1.H D' _ a = _
    rw [upd_ne]
    intro z; subst z; exact (ok.at_ n _ c h1 h2).tracked hD
  · show upd W1.H D' _ a ≠ none
    rw [upd_ne]
    · exact h
    · intro z; subst z; exact h hD
  · show upd W1.H D' _ a ≠ none
    by_cases z : a = D'
    · subst z; rw [upd_same]; exact nofun
    · rw [upd_ne z]
      rcases List.mem_cons.mp h with z' | z'
      · exact absurd z' z
      · exact ok.hidT a z'
theorem Mk1.go {C : Cn} {W1 W2 W3 : Wd} {D' : Addr} {acc : List D} {xs : List V} (m : Mk1 C W1 D' W2 acc xs) (ok : WOk C W3) (e : Ext W2 W3) : Mk1 C W1 D' W3 acc xs := by
  obtain ⟨h1, h2⟩ := e.keep D' _ m.at_ m.nl
  refine ⟨ok, e.hid.trans m.hid, m.pre.trans e.pre, fun a o h n => let ⟨q1, q2⟩ := m.keep a o h n; e.keep a o q1 q2, h1, h2, m.rep.ext e, fun a h => ?_, fun h => ?_⟩
  · rcases e.new a h with h | h
    · exact m.new a h
    · by_cases l : CLive W1 a
      · exact .inl l.mem
      · cases q : W1.H a with
        | none => exact .inr rfl
        | some o => rw [(m.keep a o q l).1] at h; cases h
  · rcases e.new D' h with h | h
    · exact m.nA h
    · rw [m.at_] at h; cases h
theorem Mk1.push {C : Cn} {W1 W2 : Wd} {D' : Addr} {acc : List D} {xs : List V} {d : D} {y : V} (m : Mk1 C W1 D' W2 acc xs) (hD : W1.H D' = none) (r : Rep C W2 d y) : Mk1 C W1 D' { W2 with H := upd W2.H D' (.lst (xs ++ [y])) } (acc ++ [d]) (xs ++ [y]) := by
  have mn : Mn W2 { W2 with H := upd W2.H D' (.lst (xs ++ [y])) } := by
    refine ⟨List.prefix_refl _, fun a o h n => ⟨?_, n⟩⟩
    show upd W2.H D' _ a = _
    rw [upd_ne]; exact h
    intro z; subst z
    exact n (.inr (by rw [m.hid]; exact List.mem_cons_self))
  refine ⟨m.ok.mk' rfl rfl mn (fun n a c h1 h2 h3 => ?_) (fun a h => ?_) (fun a h => ?_), m.hid, m.pre, fun a o h n => ?_, upd_same, m.nl, (m.rep.mn mn).append (.cons (r.mn mn) .nil), m.new, m.nA⟩
  · show upd W2.H D' _ a = _
    rw [upd_ne]
    intro z; subst z; exact m.nl ⟨n, c, h1, h2, h3⟩
  · show upd W2.H D' _ a ≠ none
    by_cases z : a = D'
    · subst z; rw [upd_same]; exact nofun
    · rw [upd_ne z]; exact h
  · show upd W2.H D' _ a ≠ none
    by_cases z : a = D'
    · subst z; rw [upd_same]; exact nofun
    · rw [upd_ne z]; exact m.ok.hidT a h
  · obtain ⟨q1, q2⟩ := m.keep a o h n
    refine ⟨?_, q2⟩
    show upd W2.H D' _ a = _
    rw [upd_ne]; exact q1
    intro z; subst z; rw [hD] at h; cases h
theorem Mk1.done {C : Cn} {W1 W2 : Wd} {D' : Addr} {acc : List D} {xs : List V} (m : Mk1 C W1 D' W2 acc xs) (ok1 : WOk C W1) (hD : W1.H D' = none) :
    WOk C { W2 with hid := W1.hid } ∧ Ext W1 { W2 with hid := W1.hid } ∧ Rep C { W2 with hid := W1.hid } (.lst acc) (.ref D') := by
  have mn : Mn W2 { W2 with hid := W1.hid } := ⟨List.prefix_refl _, fun a o h n => ⟨h, fun z => by
    rcases z with z | z
    · exact n (.inl z)
    · exact n (.inr (by rw [m.hid]; exact List.mem_cons_of_mem _ z))⟩⟩
  have ok' : WOk C { W2 with hid := W1.hid } := m.ok.mk' rfl rfl mn (fun _ _ _ _ _ _ => rfl) (fun _ h => h) fun a h => m.ok.hidT a (by rw [m.hid]; exact List.mem_cons_of_mem _ h)
  refine ⟨ok', ⟨m.pre, rfl, m.keep, m.new⟩, ?_⟩
  unfold Rep
  refine ⟨D', xs, rfl, ⟨m.at_, fun z => ?_⟩, m.rep.mn mn⟩
  rcases z with z | z
  · exact m.nl z
  · exact ok1.hidT D' z hD
theorem Mk1.doneC {C : Cn} {W1 W2 : Wd} {D' : Addr} {acc : List D} {xs : List V} (m : Mk1 C W1 D' W2 acc xs) (ok1 : WOk C W1) (hD : W1.H D' = none) :
    WOk C ⟨W2.H, W2.A ++ [D'], W2.st ++ [.lst acc], W1.hid⟩ ∧ Ext W1 ⟨W2.H, W2.A ++ [D'], W2.st ++ [.lst acc], W1.hid⟩ ∧ Rep C ⟨W2.H, W2.A ++ [D'], W2.st ++ [.lst acc], W1.hid⟩ (.cell W2.st.length) (.ref D') := by
  have live : ∀ a, CLive ⟨W2.H, W2.A ++ [D'], W2.st ++ [.lst acc], W1.hid⟩ a → CLive W2 a ∨ a = D' := fun a ⟨k, c, h1, h2, h3⟩ => by
    have h1 : (W2.A ++ [D'])[k]? = some a := h1
    have h2 : (W2.st ++ [.lst acc])[k]? = some c := h2
    by_cases hk : k < W2.A.length
    · rw [List.getElem?_append_left hk] at h1
      rw [List.getElem?_append_left (by rw [← m.ok.len]; exact hk)] at h2
      exact .inl ⟨k, c, h1, h2, h3⟩
    · have hk' : k = W2.A.length := by
        have := (List.getElem?_eq_some_iff.mp h1).1
        rw [List.length_append, List.length_singleton] at this
        omega
      subst hk'
      simp at h1
      exact .inr h1.symm
  have mn : Mn W2 ⟨W2.H, W2.A ++ [D'], W2.st ++ [.lst acc], W1.hid⟩ := ⟨⟨[D'], rfl⟩, fun a o h n => ⟨h, fun z => by
    rcases z with z | z
    · rcases live a z with z | z
      · exact n (.inl z)
      · exact n (.inr (by rw [m.hid, z]; exact List.mem_cons_self))
    · exact n (.inr (by rw [m.hid]; exact List.mem_cons_of_mem _ z))⟩⟩
  refine ⟨⟨?_, ?_, fun k a c h1 h2 => ?_, fun a h => m.ok.hidT a (by rw [m.hid]; exact List.mem_cons_of_mem _ h)⟩, ⟨m.pre.trans ⟨[D'], rfl⟩, rfl, fun a o h n => ?_, fun a h => ?_⟩, ?_⟩
  · show (W2.A ++ [D']).length = (W2.st ++ [Cel.lst acc]).length
    rw [List.length_append, List.length_append, m.ok.len]; rfl
  · show (W2.A ++ [D']).Nodup
    rw [List.nodup_append]
    refine ⟨m.ok.nd, by simp, fun a ha b hb => ?_⟩
    simp at hb; subst hb
    exact fun z => m.nA (z ▸ ha)
  · have h1 : (W2.A ++ [D'])[k]? = some a := h1
    have h2 : (W2.st ++ [.lst acc])[k]? = some c := h2
    by_cases hk : k < W2.A.length
    · rw [List.getElem?_append_left hk] at h1
      rw [List.getElem?_append_left (by rw [← m.ok.len]; exact hk)] at h2
      have h := m.ok.at_ k a c h1 h2
      cases c with
      | lst ds => obtain ⟨xs, q, r⟩ := h; exact ⟨xs, q, r.mn mn⟩
      | dct ks ds => obtain ⟨xs, q, l, r⟩ := h; exact ⟨xs, q, l, r.mn mn⟩
      | dead => exact h
    · have hk' : k = W2.A.length := by
        have := (List.getElem?_eq_some_iff.mp h1).1
        rw [List.length_append, List.length_singleton] at this
        omega
      subst hk'
      simp at h1
      subst h1
      rw [m.ok.len] at h2
      simp at h2
      subst h2
      exact ⟨xs, m.at_, m.rep.mn mn⟩
  · obtain ⟨q1, q2⟩ := m.keep a o h n
    refine ⟨q1, fun z => ?_⟩
    rcases live a z with z | z
    · exact q2 z
    · subst z; rw [hD] at h; cases h
  · rcases List.mem_append.mp (show a ∈ W2.A ++ [D'] from h) with h | h
    · exact m.new a h
    · simp at h; subst h; exact .inr hD
  · unfold Rep
    refine ⟨D', rfl, ?_⟩
    show (W2.A ++ [D'])[W2.st.length]? = some D'
    rw [← m.ok.len]; simp
/-- what the two ends ask -/
theorem lc_read {σ : St} {W : Wd} {en : En} {Q : VK} {vs : List Nat} {fin : List D → Sto → Out D} (ok : WOk (cn X) W) (er : EnvR (cn X) W σ en)
    (hfin : ∀ W1 W2 D' acc xs, Ext W W1 → WOk (cn X) W1 → W1.H D' = none → Mk1 (cn X) W1 D' W2 acc xs → PostE (cn X) Wx W σ Q (fin acc W2.st) → Q (.ref D') W2.H)
    (q : PostE (cn X) Wx W σ Q (mb (im en W.st) fun ds st => mb (lcLoop gm tm em (wipeEn vs en) ds [] st) fin)) :
    tLc (tDI (cn X) Wx im) (tDG (cn X) vs gm) (tDT (cn X) WF tm) (tD (cn X) WF em) vs σ W.H Q := by
  refine ⟨W, en, rfl, ok, er, ?_⟩
  cases hm : im en W.st with
  | err x st => rw [hm] at q; exact q
  | bad => rw [hm] at q; exact q.elim
  | ok ds st' =>
    rw [hm] at q
    have q : PostE (cn X) Wx W σ Q (mb (lcLoop gm tm em (wipeEn vs en) ds [] st') fin) := q
    intro W1 J Y G hs1 ok1 e1 wk hG hY D' hD
    subst hs1
    have nb : lcLoop gm tm em (wipeEn vs en) ds [] W1.st ≠ .bad := fun z => by rw [z] at q; exact q.elim
    refine lc_it wk (fun i H' => ∃ W2 acc xs, W2.H = H' ∧ Mk1 (cn X) W1 D' W2 acc xs ∧ lcLoop gm tm em (wipeEn vs en) ds [] W1.st = lcLoop gm tm em (wipeEn vs en) (ds.drop i) acc W2.st)
      ⟨_, [], [], rfl, Mk1.start ok1 hD, rfl⟩ ?_ ?_ ?_
    · rintro i _ _ ⟨W2, acc, xs, rfl, mk, _⟩
      exact hG W2 mk.ok (mk.mn hD)
    · rintro i x _ H' hi ⟨W2, acc, xs, rfl, mk, hl⟩ y
      obtain ⟨W3, d, h3, hs3, ok3, e3, hd, hr⟩ := hY i W2 x H' hi mk.ok (mk.mn hD) y
      subst h3
      have mk3 := mk.go ok3 e3
      have hdr : ds.drop i = d :: ds.drop (i + 1) := by
        obtain ⟨hl, hd'⟩ := List.getElem?_eq_some_iff.mp hd
        rw [List.drop_eq_getElem_cons hl, hd']
      rw [hdr] at hl
      rw [lcLoop_cons, ← hs3] at hl
      have er3 : EnvR (cn X) W3 (L2.wipe σ vs) (wipeEn vs en) := ((er.ext e1).mn (mk3.mn hD)).wipe vs
      cases hg' : gm d (wipeEn vs en) W3.st with
      | none => rw [hg'] at hl; exact absurd hl nb
      | some en3 =>
        rw [hg'] at hl
        refine ⟨W3, wipeEn vs en, d, en3, rfl, ok3, er3, hr, hg', fun σ3 er3' hw => ⟨by rw [hw, wipe_wipe], W3, en3, rfl, ok3, er3', ?_⟩⟩
        simp only at hl
        cases ht : tm en3 W3.st with
        | err x st => rw [ht] at hl; exact absurd hl nb
        | bad => rw [ht] at hl; exact absurd hl nb
        | ok k st4 =>
          rw [ht] at hl
          intro W4 hs4 ok4 e4
          have mk4 := mk3.go ok4 e4
          cases k with
          | false =>
            rw [if_neg Bool.false_ne_true]
            exact ⟨W4, acc, xs, rfl, mk4, by rw [hs4]; exact hl⟩
          | true =>
            rw [if_pos rfl]
            refine ⟨W4, en3, rfl, ok4, er3'.ext e4, ?_⟩
            subst hs4
            simp only at hl
            cases he : em en3 W4.st with
            | err x st => rw [he] at hl; exact absurd hl nb
            | bad => rw [he] at hl; exact absurd hl nb
            | ok d' st5 =>
              rw [he] at hl
              intro W5 v5 hs5 ok5 e5 r5
              have mk5 := mk4.go ok5 e5
              simp only at hl
              by_cases hsz : acc.length < sizeLine
              · rw [if_pos hsz] at hl
                refine ⟨xs, mk5.at_, by rw [← mk5.rep.length]; exact hsz, _, acc ++ [d'], xs ++ [v5], rfl, mk5.push hD r5, ?_⟩
                rw [hl]
                show _ = lcLoop gm tm em (wipeEn vs en) (ds.drop (i + 1)) (acc ++ [d']) W5.st
                rw [hs5]
              · rw [if_neg hsz] at hl; exact absurd hl nb
    · rintro _ ⟨W2, acc, xs, rfl, mk, hl⟩
      rw [List.drop_length] at hl
      rw [hl] at q
      exact hfin W1 W2 D' acc xs e1 ok1 hD mk q
abbrev blkOf (X : Cx) (scope : Scope) (s : Shared) (H : Hp) (C : Addr) (cl : List (Str × Addr)) (fp : List Addr) : Cx := X.blk s H scope (compEnvC scope cl C X.env) fp
theorem pd_lc {scope : Scope} {own : List (Str × Nat)} (hi : PDI X Wx tg iter im) (hg : ∀ s H C cl fp, PDG (blkOf X scope s H C cl fp) (own.map (·.2)) tg gm)
    (ht : ∀ s H C cl fp, PDTs (blkOf X scope s H C cl fp) WF ifs tm) (he : ∀ s H C cl fp, PD (blkOf X scope s H C cl fp) WF elt em)
    (hc : X.calm = true) (hN : X.N.Nodup) (ok : blkC X.N X.env.scope scope own = true) (hs : ∀ x, foldedSetIterable iter X.env x = pure x := by intro _; rfl) :
    PD X Wx (.ListComp elt [⟨tg, iter, ifs, 0⟩] scope pos) (mLc im gm tm em (own.map (·.2))) :=
  ⟨PE.weak (pe_lc hc hN hi.pi (blkOk_by ok) (fun s H C cl fp => (hg s H C cl fp).pg) (fun s H C cl fp => (ht s H C cl fp).pts) (fun s H C cl fp => (he s H C cl fp).pe) hs) fun σ H Q ⟨W, en, e, okw, er, q⟩ => by
    subst e
    refine lc_read (im := im) (gm := gm) (tm := tm) (em := em) (fin := finL) okw er (fun W1 W2 D' acc xs e1 ok1 hD mk q2 => ?_) q
    obtain ⟨h1, h2, h3⟩ := mk.done ok1 hD
    exact q2 { W2 with hid := W1.hid } _ rfl h1 (e1.trans h2) h3⟩
theorem pd_lcC {scope : Scope} {own : List (Str × Nat)} (hi : PDI X Wx tg iter im) (hg : ∀ s H C cl fp, PDG (blkOf X scope s H C cl fp) (own.map (·.2)) tg gm)
    (ht : ∀ s H C cl fp, PDTs (blkOf X scope s H C cl fp) WF ifs tm) (he : ∀ s H C cl fp, PD (blkOf X scope s H C cl fp) WF elt em)
    (hc : X.calm = true) (hN : X.N.Nodup) (ok : blkC X.N X.env.scope scope own = true) (hs : ∀ x, foldedSetIterable iter X.env x = pure x := by intro _; rfl) :
    PD X Wx (.ListComp elt [⟨tg, iter, ifs, 0⟩] scope pos) (mLcC im gm tm em (own.map (·.2))) :=
  ⟨PE.weak (pe_lc hc hN hi.pi (blkOk_by ok) (fun s H C cl fp => (hg s H C cl fp).pg) (fun s H C cl fp => (ht s H C cl fp).pts) (fun s H C cl fp => (he s H C cl fp).pe) hs) fun σ H Q ⟨W, en, e, okw, er, q⟩ => by
    subst e
    refine lc_read (im := im) (gm := gm) (tm := tm) (em := em) (fin := finC) okw er (fun W1 W2 D' acc xs e1 ok1 hD mk q2 => ?_) q
    obtain ⟨h1, h2, h3⟩ := mk.doneC ok1 hD
    exact q2 ⟨W2.H, W2.A ++ [D'], W2.st ++ [.lst acc], W1.hid⟩ _ rfl h1 (e1.trans h2) h3⟩
/-- name = [..] -/
theorem pds_setLc {scope : Scope} {own : List (Str × Nat)} {i : Nat} {y : Str} {py spos : Pos} (hi : PDI X Wx tg iter im) (hg : ∀ s H C cl fp, PDG (blkOf X scope s H C cl fp) (own.map (·.2)) tg gm)
    (ht : ∀ s H C cl fp, PDTs (blkOf X scope s H C cl fp) WF ifs tm) (he : ∀ s H C cl fp, PD (blkOf X scope s H C cl fp) WF elt em)
    (hc : X.calm = true) (hN : X.N.Nodup) (ok : blkC X.N X.env.scope scope own = true) (hsw : swapsWith (.ListComp elt [⟨tg, iter, ifs, 0⟩] scope pos) (some (.Name y py)) spos.line X.env = pure true)
    (hy : X.N[i]? = some y := by rfl) (hyl : X.env.scope.names.lookup y = some .local := by rfl) (hs : ∀ x, foldedSetIterable iter X.env x = pure x := by intro _; rfl) :
    PDS X Wx (.Assign [.Name y py] (.ListComp elt [⟨tg, iter, ifs, 0⟩] scope pos) spos) (sSet i (mLc im gm tm em (own.map (·.2)))) :=
  ⟨PS.weak (ps_setLc hc hN hy hyl hsw hi.pi (blkOk_by ok) (fun s H C cl fp => (hg s H C cl fp).pg) (fun s H C cl fp => (ht s H C cl fp).pts) (fun s H C cl fp => (he s H C cl fp).pe) hs) fun Dn σ H ⟨W, en, e, okw, er, q⟩ => by
    subst e
    show tLc _ _ _ _ _ σ W.H fun x H1 => Dn.nx (σ.set i (some x)) H1
    refine lc_read (Wx := Wx) (im := im) (gm := gm) (tm := tm) (em := em) (fin := finL) okw er (fun W1 W2 D' acc xs e1 ok1 hD mk q2 => ?_) ?_
    · obtain ⟨h1, h2, h3⟩ := mk.done ok1 hD
      exact q2 { W2 with hid := W1.hid } _ rfl h1 (e1.trans h2) h3
    · unfold sSet at q
      have : ∀ o : Out D, PostS (cn X) Wx W Dn (smb o en fun d st => .nx (en.set i (some d)) st) → PostE (cn X) Wx W σ (fun x H1 => Dn.nx (σ.set i (some x)) H1) o := fun o q => by
        cases o with
        | ok d st => exact fun W' v h1 h2 h3 h4 => q W' _ h1 h2 h3 ((er.ext h3).set i h4)
        | err x st => exact fun W' c dd h1 h2 h3 h4 => q W' σ c dd h1 h2 h3 (er.ext h3) h4
        | bad => exact q
      exact this _ q⟩
theorem pds_setLcC {scope : Scope} {own : List (Str × Nat)} {i : Nat} {y : Str} {py spos : Pos} (hi : PDI X Wx tg iter im) (hg : ∀ s H C cl fp, PDG (blkOf X scope s H C cl fp) (own.map (·.2)) tg gm)
    (ht : ∀ s H C cl fp, PDTs (blkOf X scope s H C cl fp) WF ifs tm) (he : ∀ s H C cl fp, PD (blkOf X scope s H C cl fp) WF elt em)
    (hc : X.calm = true) (hN : X.N.Nodup) (ok : blkC X.N X.env.scope scope own = true) (hsw : swapsWith (.ListComp elt [⟨tg, iter, ifs, 0⟩] scope pos) (some (.Name y py)) spos.line X.env = pure true)
    (hy : X.N[i]? = some y := by rfl) (hyl : X.env.scope.names.lookup y = some .local := by rfl) (hs : ∀ x, foldedSetIterable iter X.env x = pure x := by intro _; rfl) :
    PDS X Wx (.Assign [.Name y py] (.ListComp elt [⟨tg, iter, ifs, 0⟩] scope pos) spos) (sSet i (mLcC im gm tm em (own.map (·.2)))) :=
  ⟨PS.weak (ps_setLc hc hN hy hyl hsw hi.pi (blkOk_by ok) (fun s H C cl fp => (hg s H C cl fp).pg) (fun s H C cl fp => (ht s H C cl fp).pts) (fun s H C cl fp => (he s H C cl fp).pe) hs) fun Dn σ H ⟨W, en, e, okw, er, q⟩ => by
    subst e
    show tLc _ _ _ _ _ σ W.H fun x H1 => Dn.nx (σ.set i (some x)) H1
    refine lc_read (Wx := Wx) (im := im) (gm := gm) (tm := tm) (em := em) (fin := finC) okw er (fun W1 W2 D' acc xs e1 ok1 hD mk q2 => ?_) ?_
    · obtain ⟨h1, h2, h3⟩ := mk.doneC ok1 hD
      exact q2 ⟨W2.H, W2.A ++ [D'], W2.st ++ [.lst acc], W1.hid⟩ _ rfl h1 (e1.trans h2) h3
    · unfold sSet at q
      have : ∀ o : Out D, PostS (cn X) Wx W Dn (smb o en fun d st => .nx (en.set i (some d)) st) → PostE (cn X) Wx W σ (fun x H1 => Dn.nx (σ.set i (some x)) H1) o := fun o q => by
        cases o with
        | ok d st => exact fun W' v h1 h2 h3 h4 => q W' _ h1 h2 h3 ((er.ext h3).set i h4)
        | err x st => exact fun W' c dd h1 h2 h3 h4 => q W' σ c dd h1 h2 h3 (er.ext h3) h4
        | bad => exact q
      exact this _ q⟩
end
end Pd

namespace Pd
open PySem PySem.Spec L2
open PyProof.Rows hiding St

/-! ## calls of defs; the call's context also tells that no repr is going on -/
structure RG (k : Nat) (A : Around) : Prop where
  rm : Room k A
  gd : A.guards = some []
theorem RG.mono {j k : Nat} {A : Around} (r : RG k A) (h : j ≤ k) : RG j A := ⟨r.rm.mono h, r.gd⟩
theorem RG.deeper {k : Nat} {A : Around} (r : RG (k + 1) A) (env : Env) : RG k (A.deeper env) := ⟨r.rm.deeper env, r.gd⟩
structure FnG (P : Program) (w : World) (K : PySem.W.Frag) (mg : Str → Option Value) (base : Heap) (k : Nat) (f : Addr) (fd : FuncData) (ps : List Str) (sp : Sp) : Prop where
  len : ∀ vs H Q E, sp vs H Q E → vs.length = ps.length
  run : ∀ (A : Around) (outer : List Env) (s : Shared) (H : Hp) (args : Args) (us : List Value) (vs : List V) (Q : VK) (E : XK), RG k A → Env0 P w K mg base A outer s H →
    BindsTo s fd args (ps.zip us) → Vals vs us → sp vs H Q E → codeAny (model P w) A (.call (.ref f) args) (CR (L2.CX P w) outer P w H s Q E) s
theorem FnG.mono {P : Program} {w : World} {K : PySem.W.Frag} {mg : Str → Option Value} {base : Heap} {j k : Nat} {f : Addr} {fd : FuncData} {ps : List Str} {sp : Sp} (F : FnG P w K mg base j f fd ps sp) (h : j ≤ k) : FnG P w K mg base k f fd ps sp :=
  ⟨F.len, fun A outer s H args us vs Q E hr he hb hv hs => F.run A outer s H args us vs Q E (hr.mono h) he hb hv hs⟩
theorem FnG.imp {P : Program} {w : World} {K : PySem.W.Frag} {mg : Str → Option Value} {base : Heap} {k : Nat} {f : Addr} {fd : FuncData} {ps : List Str} {sp sp' : Sp} (F : FnG P w K mg base k f fd ps sp) (h : ∀ vs H Q E, sp' vs H Q E → sp vs H Q E) : FnG P w K mg base k f fd ps sp' :=
  ⟨fun vs H Q E q => F.len vs H Q E (h _ _ _ _ q), fun A outer s H args us vs Q E hr he hb hv hs => F.run A outer s H args us vs Q E hr he hb hv (h _ _ _ _ hs)⟩

section
variable {P : Program} {w : World} {K : PySem.W.Frag} {mg : Str → Option Value} {base : Heap} {k : Nat} {f : Addr} {name qual : Str} {params : Arguments} {body : List Stmt} {scope : Scope} {dV kV doc pm cdv ct oc : Value} {an od : Option Addr}
  {osl : Array (Option Value)} {N ps : List Str} {sp : Sp}
theorem fnG_of (lk : K.lookup f = some ⟨oc, od, .func (PySem.W.fnOf name qual params body scope dV kV doc pm an cdv ct), osl⟩) (hcd : PySem.W.codeIn K cdv qual = true) (S : FnScope N ps scope) (len : ∀ vs H Q E, sp vs H Q E → vs.length = ps.length)
    (hbody : ∀ (A : Around) (outer : List Env) (s : Shared) (H : Hp) (vs : List V) (Q : VK) (E : XK), RG k (A.deeper (envOfC qual scope s.heap.objs.size f cdv)) → sp vs H Q E →
      ∃ t, PSs (cxOf (L2.CX P w) P w K mg base N qual scope f cdv A outer s H E) body t ∧ t { nx := fun _ H' => Q .non H', rt := Q } (L2.start N vs) H) :
    FnG P w K mg base (k + 1) f (PySem.W.fnOf name qual params body scope dV kV doc pm an cdv ct) ps sp := by
  constructor
  · exact len
  intro A outer s H args us vs Q E hr e0 hb rv hsp
  have stay : ∀ b o, base.get? b = some o → s.heap.get? b = some o := fun b o e => (e0.bs b o e).1
  have KX : K.In s.heap := e0.mod.kin.keeps stay
  have nolim : s.heap.NoLimit := e0.mod.nolimit.keeps stay
  have kinds : ∀ y ∈ ps.zip us, scope.names.lookup y.1 = some .local ∨ (scope.names.lookup y.1 = some .cell ∧ ((cellsFrom (s.heap.objs.size + 1) scope.names []).lookup y.1).isSome = true) := by
    rintro ⟨n, v⟩ hy
    cases S.par n (List.of_mem_zip hy).1 with
    | inl q => exact Or.inl q
    | inr q => exact Or.inr ⟨q, PySem.W.cellsFrom_some _ _ _ (Or.inl q)⟩
  refine codeAny_call_function hr.rm.depth (KX _ _ lk) rfl S.co S.gen rfl (PySem.W.codeRec_of KX hcd) (hb _ _ _ _ (wpAny_newFunctionEnv_cells S.kind kinds fun env he s1 x => ?_))
  subst he
  refine ⟨nolim.keeps x.toInCall.keep, codeAny_func ?_⟩
  obtain ⟨t, ht, hq⟩ := hbody A outer s H vs Q E (hr.deeper _) hsp
  have J0 := inv_start (CX := L2.CX P w) (K := K) (mg := mg) (base := base) (E := E) S hr.rm.hd e0 (len _ _ _ _ hsp) rv x
  refine wpAny_mono (ht.run [] s1 (L2.start N vs) H { nx := fun _ H' => Q .non H', rt := Q } J0 hq) (fun fl s' hs => ?_) fun _ _ z => z
  cases fl with
  | next => obtain ⟨_, H', J, q⟩ := hs; exact ⟨V.non, H', J.os, J.bare, J.base, J.hok, rfl, q⟩
  | ret u => obtain ⟨v, _, H', J, r, q⟩ := hs; exact ⟨v, H', J.os, J.bare, J.base, J.hok, r, q⟩
  | brk => obtain ⟨_, _, _, q⟩ := hs; exact q.elim
  | cont => obtain ⟨_, _, _, q⟩ := hs; exact q.elim
end

/-! ## what a def promises, by data -/
def PostF (C : Cn) (E : XK) (W : Wd) (Q : VK) : Out D → Prop
  | .ok d st' => ∀ W' v, W'.st = st' → WOk C W' → Ext W W' → Rep C W' d v → Q v W'.H
  | .err e st' => ∀ W' cls dd, W'.st = st' → WOk C W' → Ext W W' → ExR C W' e cls dd → E cls dd W'.H
  | .bad => False
abbrev FM := List D → Sto → Out D
def spD (C : Cn) (n : Nat) (F : FM) : Sp := fun vs H Q E => ∃ W ds, W.H = H ∧ WOk C W ∧ RepL C W ds vs ∧ ds.length = n ∧ PostF C E W Q (F ds W.st)
/-- a def's meaning by that of its body -/
def fnM (N : Nat) (body : SM) : FM := fun ds st => match body (ds.map some ++ List.replicate (N - ds.length) none) st with
  | .nx _ st' => .ok .non st' | .rt d st' => .ok d st' | .err e _ st' => .err e st' | _ => .bad
theorem start_env {C : Cn} {W : Wd} {N : List Str} {ds : List D} {vs : List V} (r : RepL C W ds vs) : EnvR C W (L2.start N vs) (ds.map some ++ List.replicate (N.length - ds.length) none) := by
  have hl := r.length
  refine ⟨by unfold L2.start; rw [List.length_append, List.length_append, List.length_map, List.length_map, List.length_replicate, List.length_replicate, hl], fun i d h => ?_⟩
  by_cases hi : i < ds.length
  · rw [List.getElem?_append_left (by rw [List.length_map]; exact hi), List.getElem?_map] at h
    cases e : ds[i]? with
    | none => rw [e] at h; cases h
    | some d' =>
      rw [e] at h
      cases h
      obtain ⟨v, hv, rv⟩ := r.get e
      refine ⟨v, ?_, rv⟩
      unfold L2.start
      rw [List.getElem?_append_left (by rw [List.length_map, ← hl]; exact hi), List.getElem?_map, hv]; rfl
  · rw [List.getElem?_append_right (by rw [List.length_map]; omega), List.getElem?_replicate] at h
    split at h <;> cases h
/-- what a body's context gives -/
structure Bd (X : Cx) (Wx : WX) (k : Nat) : Prop where
  calm : X.calm = true
  nd : X.N.Nodup
  tk : Takes X Wx
  rg : RG k X.A
section
variable {P : Program} {w : World} {K : PySem.W.Frag} {mg : Str → Option Value} {base : Heap}
abbrev WxE (E : XK) : WX := fun cls d _ H => E cls d H
abbrev bodyCx (P : Program) (w : World) (K : PySem.W.Frag) (mg : Str → Option Value) (base : Heap) (N : List Str) (qual : Str) (st : Stmt) (f : Addr) (cdv : Value) (A : Around) (outer : List Env) (s : Shared) (H : Hp) (E : XK) : Cx :=
  cxOf (L2.CX P w) P w K mg base N qual (defScope st) f cdv A outer s H E
theorem fnD {x qual : Str} {st : Stmt} {f : Addr} {fd : FuncData} {N ps : List Str} {k : Nat} {m : SM} (F : Fun K x qual st f fd) (S : FnScope N ps (defScope st))
    (hb : ∀ (cdv : Value) (A : Around) (outer : List Env) (s : Shared) (H : Hp) (E : XK), Bd (bodyCx P w K mg base N qual st f cdv A outer s H E) (WxE E) k → PassesOwn (model P w) (bodyCx P w K mg base N qual st f cdv A outer s H E).A (bodyCx P w K mg base N qual st f cdv A outer s H E).env (bodyCx P w K mg base N qual st f cdv A outer s H E).xe →
      PDSs (bodyCx P w K mg base N qual st f cdv A outer s H E) (WxE E) (defBody st) m) :
    FnG P w K mg base (k + 1) f fd ps (spD ⟨K, mg⟩ ps.length (fnM N.length m)) := by
  obtain ⟨oc, od, kV, doc, pm, an, cdv, ct, osl, rfl, lk, hcd⟩ := F.ex
  refine fnG_of lk hcd S (fun vs H Q E h => ?_) fun A outer s H vs Q E hr h => ?_
  · obtain ⟨W, ds, _, _, r, hl, _⟩ := h
    rw [← r.length, hl]
  obtain ⟨W, ds, rfl, ok, r, hl, q⟩ := h
  refine ⟨_, (hb cdv A outer s W.H E ⟨rfl, S.nd, takes_of rfl rfl rfl rfl, hr⟩ (passes_of rfl)).ps, W, _, rfl, ok, start_env r, ?_⟩
  unfold fnM at q
  cases hm : m (ds.map some ++ List.replicate (N.length - ds.length) none) W.st with
  | nx en st' => rw [hm] at q; exact fun W' σ' h1 h2 h3 _ => q W' _ h1 h2 h3 .non
  | rt d st' => rw [hm] at q; exact q
  | err e en st' => rw [hm] at q; exact fun W' σ' cls dd h1 h2 h3 _ h5 => q W' cls dd h1 h2 h3 h5
  | bk en st' => rw [hm] at q; exact q.elim
  | ct en st' => rw [hm] at q; exact q.elim
  | bad => rw [hm] at q; exact q.elim
end
theorem Bd.blk {X : Cx} {Wx : WX} {k : Nat} (b : Bd X Wx k) (scope : Scope) (s : Shared) (H : Hp) (C : Addr) (cl : List (Str × Addr)) (fp : List Addr) : Bd (blkOf X scope s H C cl fp) WF k := ⟨b.calm, b.nd, takes0, b.rg⟩

section
variable {X : Cx} {Wx : WX} {k : Nat} {f : Addr} {fd : FuncData} {ps : List Str} {x : Str} {p pos : Pos} {e : Expr} {es : List Expr} {lm : LM} {G : FM} {n : Nat}
theorem run_fnG {sp : Sp} {E : XK} {pins : List (Addr × Obj)} {σ : St} {H : Hp} {s : Shared} {Q : VK} {us : List Value} {vs : List V} (F : FnG X.prog X.w X.K X.mg X.base k f fd ps sp) (hr : RG k X.A) (hb : Binds X.K fd ps []) (hx : PassesAt (L2.CX X.prog X.w) X σ E)
    (I : Inv X pins σ H s) (r : Vals vs us) (h : sp vs H Q E) : wpAny (model X.prog X.w) X.A (call (.ref f) us) (EP X pins σ Q) X.xe s := by
  have hlen : us.length = ps.length := r.length.symm.trans (F.len _ _ _ _ h)
  have bt := hb s us I.kIn (by simpa using hlen)
  rw [List.append_nil] at bt
  refine wpAny_call (codeAny_mono (F.run X.A X.stack s H ⟨us, []⟩ us vs Q E hr I.env0 bt r h) ?_)
  rintro (e | fl) s' hq
  · exact hx pins H s e s' I hq
  · cases fl with
    | ret u => exact I.after hq
    | next => exact hq.elim
    | brk => exact hq.elim
    | cont => exact hq.elim
def mCall (G : FM) (n : Nat) (lm : LM) : EM := fun en st => mb (lm en st) fun ds st => if ds.length = n then G ds st else .bad
theorem pd_call (F : FnG X.prog X.w X.K X.mg X.base k f fd ps (spD (cn X) n G)) (hm : X.mg x = some (.ref f)) (hk : PySem.W.keepIn X.K (.ref f) = true) (hb : Binds X.K fd ps []) (b : Bd X Wx k) (ha : PDA X Wx (e :: es) lm)
    (hg : Gl X x := by rfl) (hdb : (x == ("__debug__" : Str)) = false := by decide) (he : starEach (e :: es) X.env = (false, eval e X.env) :: starEach es X.env := by rfl) (hpl : (backTo pos (starEach es X.env)).any (·.1) = false := by rfl) :
    PD X Wx (.Call (.Name x p) (e :: es) [] pos) (mCall G n lm) := by
  refine ⟨⟨fun pins s σ H Q I h => ?_⟩⟩
  refine wpAny_Call_Name_kw (ld_glob I hg hm (PySem.W.callWith_K (h₀ := X.base) I.ok.mod.kin hk ?_ he hpl) hdb)
  have rd : tDL (cn X) Wx lm σ H fun vs H1 => spD (cn X) n G vs H1 Q (WE Wx σ) := by
    obtain ⟨W, en, eH, ok, er, q⟩ := h
    subst eH
    refine seqLE ok er q fun ds W1 vs ok1 e1 er1 r1 q1 => ?_
    by_cases hl : ds.length = n
    · rw [if_pos hl] at q1
      refine ⟨W1, ds, rfl, ok1, r1, hl, ?_⟩
      cases hG : G ds W1.st with
      | ok d st => rw [hG] at q1; exact q1
      | err x st => rw [hG] at q1; exact q1
      | bad => rw [hG] at q1; exact q1.elim
    · rw [if_neg hl] at q1; exact q1.elim
  exact thn (ha.pa.run pos pins s σ H _ I rd) fun us s1 ⟨vs, H1, I1, r, q⟩ => ⟨I1.kIn, run_fnG F b.rg hb (passAt b.tk σ) I1 r q⟩
end

/-! ## the law's end -/
theorem lawG {P : Program} {w : World} {K : PySem.W.Frag} {mg mb : Str → Option Value} {k : Nat} {fa a : Addr} {fd : FuncData} {x : Str} {sp : Sp} {s₁ : Shared} {vs : List Value} {ns : List Int}
    (KX : K.In s₁.heap) (hns : s₁.heap.Ns mainGlobals mg) (hb : s₁.heap.Ns builtinsNs mb) (hbb : ∀ x : Str, x ≠ "__name__" → mb x = bootBuiltins x) (hlim : s₁.heap.NoLimit) (hg : s₁.gens = #[])
    (ha : s₁.heap.get? a = some { cls := .type "list", data := .seq vs.toArray }) (hi : IntsAre vs ns) (hl : ns.length ≤ sizeLine) (hr : RG k callerA)
    (F : ∀ base : Heap, K.In base → base.Ns mainGlobals mg → FnG P w K mg base k fa fd [x] sp) (hbind : ∀ (s : Shared) (u : Value), BindsTo s fd ⟨[u], []⟩ [(x, u)])
    (hsp : ∀ H : Hp, Only H → SqL K H a (ns.map V.int) → sp [.ref a] H (fun v _ => v = .bl true) fun _ _ _ => False) :
    codeAny (model P w) callerA (.call (.ref fa) ⟨[.ref a], []⟩) (fun r s' => r = .ok (.ret (.bool true)) ∧ OldK s₁.heap s'.heap ∧ s'.os = s₁.os ∧ AllBare s'.gens) s₁ := by
  have lv : vs.length = ns.length := hi.length
  have vv : Vals (ns.map V.int) vs := vals_ints hi
  -- which abstract heap: the script frozen, or nothing where it is the module's own
  have main : ∀ H : Hp, Only H → SqL K H a (ns.map V.int) → HOk P w H s₁.heap → (∀ b u, H b = some u → b = a ∧ K.lookup a = none) →
      codeAny (model P w) callerA (.call (.ref fa) ⟨[.ref a], []⟩) (fun r s' => r = .ok (.ret (.bool true)) ∧ OldK s₁.heap s'.heap ∧ s'.os = s₁.os ∧ AllBare s'.gens) s₁ := fun H hO hS hok hA => by
    have untr : ∀ {b : Addr} {o : Obj}, s₁.heap.get? b = some o → (∀ its n, o.data ≠ .seq its n) → H b = none := fun {b o} e d => by
      cases q : H b with
      | none => rfl
      | some u =>
        obtain ⟨rfl, _⟩ := hA b u q
        rw [ha] at e; cases e
        exact absurd rfl (d _ _)
    have names : ∀ {b : Addr} {m : Str → Option Value}, s₁.heap.Ns b m → (hidT s₁.heap H).Ns b m := by
      rintro b m ⟨o, es, ep, e, d, r⟩
      refine ⟨o, es, ep, hidT_get e (untr e fun its n z => ?_), d, r⟩
      rw [d] at z; cases z
    have frag : K.In (hidT s₁.heap H) := by
      intro b o e
      refine hidT_get (KX b o e) ?_
      cases q : H b with
      | none => rfl
      | some u =>
        obtain ⟨rfl, z⟩ := hA b u q
        rw [z] at e; cases e
    obtain ⟨mc, hc1, hc2⟩ := hlim
    have e0 : Env0 P w K mg (hidT s₁.heap H) callerA [] s₁ H := {
      frames := rfl
      mod := ⟨frag, names hns, ⟨mb, names hb, hbb⟩, ⟨mc, names hc1, hc2⟩⟩
      bs := fun b o e => of_hidT e
      bsz := Nat.le_of_eq (hidT_size _ _)
      funs := trivial
      frf := fun b z => by cases z
      hok := hok
      bare := .of_eq hg }
    refine codeAny_mono ((F _ frag (names hns)).run callerA [] s₁ H ⟨[.ref a], []⟩ [.ref a] [.ref a] (fun v _ => v = .bl true) (fun _ _ _ => False) hr e0 (hbind s₁ (.ref a)) (.cons rfl .nil) (hsp H hO hS)) ?_
    rintro (e | fl) s' h
    · obtain ⟨_, _, _, _, _, _, _, _, _, _, _, _, z⟩ := h
      exact z.elim
    · cases fl with
      | next => exact h.elim
      | brk => exact h.elim
      | cont => exact h.elim
      | ret u =>
        obtain ⟨v, H', os, bare, un, hok', ru, rfl⟩ := h
        obtain rfl : u = Value.bool true := ru
        refine ⟨rfl, OldK.of_keep fun b o e => ?_, os, bare⟩
        cases q : H b with
        | none => exact un.keep b o e q (by intro z; cases z) (by intro z; cases z)
        | some u =>
          obtain ⟨ob, xs, z⟩ : ∃ ob xs, H b = some (.frz ob (.lst xs)) := by
            rcases hO b with z | z
            · rw [q] at z; cases z
            · exact z
          have a1 := (hok b _ z).1
          have a2 := (hok' b _ (un.frzs b ob _ z)).1
          rw [e] at a1; cases a1
          exact a2
  cases hk : K.lookup a with
  | none =>
    have at_a : ∀ {b : Addr} {u : HO}, upd (fun _ => none) a (.frz { cls := .type "list", data := .seq vs.toArray } (.lst (ns.map V.int))) b = some u → b = a ∧ u = .frz { cls := .type "list", data := .seq vs.toArray } (.lst (ns.map V.int)) := fun {b u} q => by
      by_cases e : b = a
      · subst e
        rw [upd_same] at q
        exact ⟨rfl, (Option.some.inj q).symm⟩
      · rw [upd_ne e] at q; cases q
    refine main (upd (fun _ => none) a (.frz { cls := .type "list", data := .seq vs.toArray } (.lst (ns.map V.int)))) (fun b => ?_) (.inl (.inr ⟨_, upd_same⟩)) (fun b u q => ?_) fun b u q => ⟨(at_a q).1, hk⟩
    · by_cases e : b = a
      · subst e; exact .inr ⟨_, _, upd_same⟩
      · exact .inl (by rw [upd_ne e])
    · obtain ⟨rfl, rfl⟩ := at_a q
      exact ⟨ha, by rw [List.length_map]; exact hl, vs, _, vv, ha⟩
  | some o =>
    have e := KX a o hk
    rw [ha] at e
    cases e
    exact main (fun _ => none) (fun _ => .inl rfl) (.inr ⟨_, vs.toArray, _, hk, rfl, rfl, rfl, by rw [List.size_toArray, lv]; exact hl, by simpa using vv⟩) (fun b u z => by cases z) fun b u z => by cases z
theorem walkG {l : PySem.W.OpenLaw} {n k : Nat} {q : Program} {loose : List Str} {XP : (Str → Option Value) → Heap → Prop} {YP : World → Heap → Prop} {d : DefRec} {K : Params → PySem.W.Frag} {sp : World → (Str → Option Value) → Sp} {x : Str}
    (hn : l.most = some n) (hn2 : n ≤ sizeLine) (hdf : d.params.defaults = []) (hr : RG k callerA) (hY : ∀ (w : World) (h : Heap), YP w h → (K w.params).In h)
    (F : ∀ (w : World) (mg : Str → Option Value) (fa : Addr) (h : Heap), (K w.params).In h → h.Ns mainGlobals mg → mg d.name = some (.ref fa) →
      ∃ fd : FuncData, (∀ (s : Shared) (u : Value), BindsTo s fd ⟨[u], []⟩ [(x, u)]) ∧ ∀ base : Heap, (K w.params).In base → base.Ns mainGlobals mg → FnG l.prog w (K w.params) mg base k fa fd [x] (sp w mg))
    (hsp : ∀ (w : World) (mg : Str → Option Value) (H : Hp) (a : Addr) (ns : List Int), ns.length ≤ n → Only H → SqL (K w.params) H a (ns.map V.int) → sp w mg [.ref a] H (fun v _ => v = .bl true) fun _ _ _ => False) :
    PySem.W.WalkO q loose XP YP l.row.toRowW d [] (fun f vs => PySem.call f vs) := by
  refine Att.attach_call hn hdf ?_
  intro w s₀ s₁ mg mb fa o pm cd doc a vs ns G Y ho hd hcd hmg hobj hints hlen hg
  obtain ⟨fd, hb, hF⟩ := F w mg fa _ (hY w _ Y) G.T.g hmg
  exact lawG (hY w _ Y) G.T.g G.T.b G.T.builtins G.T.nolimit hg hobj hints (Nat.le_trans hlen hn2) hr hF hb fun H hO hS => hsp w mg H a ns hlen hO hS
end Pd

namespace Pd
open PySem PySem.Spec L2
open PyProof.Rows hiding St

/-! ## data as the library's data -/
def keyPy : Key → PyData
  | .inl i => .int i
  | .inr x => .str x
mutual
def py : D → PyData
  | .non => .none | .bl b => .bool b | .int i => .int i | .str x => .str x
  | .tup ds => .tuple (pyL ds) | .lst ds => .list (pyL ds) | .dct ks ds => .dict ((ks.map keyPy).zip (pyL ds))
  | .cell _ => .none | .glob _ => .none | .scr _ => .none
def pyL : List D → List PyData
  | [] => []
  | d :: ds => py d :: pyL ds
end
mutual
/-- without cells and names -/
def pur : D → Bool
  | .non | .bl _ | .int _ | .str _ => true
  | .tup ds | .lst ds | .dct _ ds => purL ds
  | .cell _ | .glob _ | .scr _ => false
def purL : List D → Bool
  | [] => true
  | d :: ds => pur d && purL ds
end
mutual
/-- nor dicts -/
def pln : D → Bool
  | .non | .bl _ | .int _ | .str _ => true
  | .tup ds | .lst ds => plnL ds
  | .dct _ _ | .cell _ | .glob _ | .scr _ => false
def plnL : List D → Bool
  | [] => true
  | d :: ds => pln d && plnL ds
end
mutual
theorem pur_of_pln : ∀ d : D, pln d = true → pur d = true
  | .non, _ => rfl
  | .bl _, _ => rfl
  | .int _, _ => rfl
  | .str _, _ => rfl
  | .tup ds, h => by unfold pur; exact purL_of_plnL ds (by unfold pln at h; exact h)
  | .lst ds, h => by unfold pur; exact purL_of_plnL ds (by unfold pln at h; exact h)
  | .dct _ _, h => by unfold pln at h; cases h
  | .cell _, h => by unfold pln at h; cases h
  | .glob _, h => by unfold pln at h; cases h
  | .scr _, h => by unfold pln at h; cases h
theorem purL_of_plnL : ∀ ds : List D, plnL ds = true → purL ds = true
  | [], _ => rfl
  | d :: ds, h => by
    unfold plnL at h
    unfold purL
    rw [Bool.and_eq_true] at h ⊢
    exact ⟨pur_of_pln d h.1, purL_of_plnL ds h.2⟩
end
mutual
theorem py_plain : ∀ d : D, pln d = true → (py d).plain = true
  | .non, _ => rfl
  | .bl _, _ => rfl
  | .int _, _ => rfl
  | .str _, _ => rfl
  | .tup ds, h => by unfold py PyData.plain; exact pyL_plain ds (by unfold pln at h; exact h)
  | .lst ds, h => by unfold py PyData.plain; exact pyL_plain ds (by unfold pln at h; exact h)
  | .dct _ _, h => by unfold pln at h; cases h
  | .cell _, h => by unfold pln at h; cases h
  | .glob _, h => by unfold pln at h; cases h
  | .scr _, h => by unfold pln at h; cases h
theorem pyL_plain : ∀ ds : List D, plnL ds = true → PyData.plainAll (pyL ds) = true
  | [], _ => rfl
  | d :: ds, h => by
    unfold plnL at h
    unfold pyL PyData.plainAll
    rw [Bool.and_eq_true] at h ⊢
    exact ⟨py_plain d h.1, pyL_plain ds h.2⟩
end
theorem pyL_map (ds : List D) : pyL ds = ds.map py := by
  induction ds with
  | nil => rfl
  | cons d ds ih => unfold pyL; rw [ih]; rfl
theorem pyL_length (ds : List D) : (pyL ds).length = ds.length := by rw [pyL_map, List.length_map]

section
variable {X : Cx} {pins : List (Addr × Obj)} {σ : St} {W : Wd} {s : Shared}
theorem zip_fst {α β : Type} : ∀ {as : List α} {bs : List β}, as.length = bs.length → (as.zip bs).map (·.1) = as
  | [], _, _ => by simp
  | a :: as, [], h => by simp at h
  | a :: as, b :: bs, h => by
    show a :: (as.zip bs).map (·.1) = a :: as
    rw [zip_fst (by simpa using h)]
theorem zip_snd {α β : Type} : ∀ {as : List α} {bs : List β}, as.length = bs.length → (as.zip bs).map (·.2) = bs
  | [], [], _ => rfl
  | [], b :: bs, h => by simp at h
  | a :: as, [], h => by simp at h
  | a :: as, b :: bs, h => by
    show b :: (as.zip bs).map (·.2) = b :: bs
    rw [zip_snd (by simpa using h)]
theorem key_reads {h : Heap} : ∀ {ks : List Key} {es : List DictEntry} {vs : List (Key × Value)}, Pairs (mixKind X.prog X.w) es vs → vs.map (·.1) = ks → ∃ as, ReadsAll h (es.map (·.key)) (ks.map keyPy) as
  | [], _, _, p, e => by
    cases p with
    | nil => exact ⟨_, .nil⟩
    | cons a b c => cases e
  | k :: ks, _, _, p, e => by
    cases p with
    | nil => cases e
    | cons a b c =>
      simp only [List.map_cons, List.cons.injEq] at e
      obtain ⟨e1, e2⟩ := e
      obtain ⟨as, h2⟩ := key_reads c e2
      rename_i ent kv es kvs
      have a' : keyIs kv.1 ent.key = true := a
      rw [e1] at a'
      rcases keyIs_shape a' with ⟨i, t, hk, hv⟩ | ⟨x, t, hk, hv⟩
      · subst hk
        have q : Reads h ent.key (keyPy (.inl i)) [] := by rw [hv]; exact .int _ _
        exact ⟨_, .cons q h2⟩
      · subst hk
        have q : Reads h ent.key (keyPy (.inr x)) [] := by rw [hv]; exact .str _ _
        exact ⟨_, .cons q h2⟩
theorem pair_vals : ∀ {ks : List Key} {xs : List V} {es : List DictEntry} {vs : List (Key × Value)}, Pairs (mixKind X.prog X.w) es vs → KV (ks.zip xs) vs → ks.length = xs.length → Vals xs (es.map (·.val)) ∧ vs.map (·.1) = ks
  | [], [], _, _, p, q, _ => by
    cases q
    cases p
    exact ⟨.nil, rfl⟩
  | [], x :: xs, _, _, _, _, h => by simp at h
  | k :: ks, [], _, _, _, _, h => by simp at h
  | k :: ks, x :: xs, _, _, p, q, h => by
    cases q with
    | cons a b =>
      cases p with
      | cons c d e =>
        obtain ⟨h1, h2⟩ := pair_vals e b (by simpa using h)
        obtain ⟨a1, a2⟩ := a
        have a3 := a2
        rw [← d] at a3
        refine ⟨.cons a3 h1, ?_⟩
        rw [List.map_cons, h2]
        exact congrArg (· :: ks) a1.symm
/-- the dict's object -/
theorem dct_obj {a : Addr} {ks : List Key} {xs : List V} (I : Inv X pins σ W.H s) (h : W.H a = some (.dK (ks.zip xs))) (hl : ks.length = xs.length) :
    (a == sysModules) = false ∧ ∃ o es ep as, s.heap.get? a = some o ∧ o.ExactDict ∧ o.data = .dict es ep ∧ Vals xs (es.toList.map (·.val)) ∧ ReadsAll s.heap (es.toList.map (·.key)) (ks.map keyPy) as := by
  have x : ObjOk X.prog X.w W.H s.heap a (.dK (ks.zip xs)) := I.hok a _ h
  obtain ⟨_, hy, vs, kv, o, es, ep, ho, hx, hd, _, hp, _⟩ := x
  obtain ⟨h1, h2⟩ := pair_vals hp kv hl
  obtain ⟨as, h3⟩ := key_reads (h := s.heap) hp h2
  exact ⟨hy, o, es, ep, as, ho, hx, hd, h1, h3⟩
mutual
theorem Rep.reads (I : Inv X pins σ W.H s) : ∀ {d : D} {v : V} {u : Value}, Rep (cn X) W d v → pur d = true → RelV v u → ∃ as, Reads s.heap u (py d) as
  | .non, _, _, h, _, r => by rw [h.non_inv] at r; cases r; exact ⟨_, .none⟩
  | .bl b, _, _, h, _, r => by rw [h.bl_inv] at r; cases r; exact ⟨_, .bool b⟩
  | .int i, _, _, h, _, r => by rw [h.int_inv] at r; obtain ⟨t, rfl⟩ := r; exact ⟨_, .int i t⟩
  | .str x, _, _, h, _, r => by rw [h.str_inv] at r; obtain ⟨t, rfl⟩ := r; exact ⟨_, .str x t⟩
  | .tup ds, _, _, h, p, r => by
    obtain ⟨a, xs, rfl, ht, hr⟩ := h.tup_inv
    cases r
    obtain ⟨its, rv, ⟨o, ho, hc, n, hd⟩, _⟩ := I.tuple ht.sq
    obtain ⟨as, q⟩ := RepL.reads I hr (by unfold pur at p; exact p) rv
    exact ⟨_, .tuple ho hc hd q⟩
  | .lst ds, _, _, h, p, r => by
    obtain ⟨a, xs, rfl, ht, hr⟩ := h.lst_inv
    cases r
    obtain ⟨its, rv, ⟨o, n, ho, hc, _, hd⟩, _⟩ := I.list ht.sq
    obtain ⟨as, q⟩ := RepL.reads I hr (by unfold pur at p; exact p) rv
    exact ⟨_, .list ho hc hd q⟩
  | .dct ks ds, _, _, h, p, r => by
    unfold Rep at h
    obtain ⟨a, xs, rfl, hH, _, hl, hr⟩ := h
    cases r
    obtain ⟨_, o, es, ep, as, ho, hx, hd, hv, hk⟩ := dct_obj I hH hl
    obtain ⟨bs, q⟩ := RepL.reads I hr (by unfold pur at p; exact p) hv
    have l2 : (ks.map keyPy).length = (pyL ds).length := by rw [List.length_map, pyL_length, hl, hr.length]
    exact ⟨_, .dict (kvs := (ks.map keyPy).zip (pyL ds)) ho hx.1 hd (by rw [zip_fst l2]; exact hk) (by rw [zip_snd l2]; exact q)⟩
  | .cell _, _, _, _, p, _ => by unfold pur at p; cases p
  | .glob _, _, _, _, p, _ => by unfold pur at p; cases p
  | .scr _, _, _, _, p, _ => by unfold pur at p; cases p
theorem RepL.reads (I : Inv X pins σ W.H s) : ∀ {ds : List D} {vs : List V} {us : List Value}, RepL (cn X) W ds vs → purL ds = true → Vals vs us → ∃ as, ReadsAll s.heap us (pyL ds) as
  | [], _, _, h, _, r => by rw [h.nil_inv] at r; cases r; exact ⟨_, .nil⟩
  | d :: ds, _, _, h, p, r => by
    obtain ⟨v, r', rfl, h1, h2⟩ := h.cons_inv
    unfold purL at p
    rw [Bool.and_eq_true] at p
    cases r with
    | cons q1 q2 =>
      obtain ⟨as, z1⟩ := Rep.reads I h1 p.1 q1
      obtain ⟨bs, z2⟩ := RepL.reads I h2 p.2 q2
      exact ⟨_, .cons z1 z2⟩
end

/-! ## repr -/
theorem atMost_both {h : Heap} {n m k : Nat} {bs cs : List Addr} (a : ReadAtMost h n bs) (b : ReadAtMost h m cs) (h1 : n ≤ k) (h2 : m ≤ k) : ReadAtMost h k (bs ++ cs) := (a.mono h1).append (b.mono h2)
mutual
theorem Rep.shows (I : Inv X pins σ W.H s) : ∀ {d : D} {v : V} {u : Value}, Rep (cn X) W d v → pur d = true → RelV v u → (py d).showable = true → (py d).shown.length ≤ sizeLine →
    ∃ bs, ReadAtMost s.heap (py d).depth bs ∧ ReprK X.prog X.w bs s.heap (py d).depth u (py d).shown
  | .non, _, _, h, _, r, _, _ => by
    rw [h.non_inv] at r; cases r
    refine ⟨[], (by intro _ z; cases z), ?_⟩
    simp only [py, PyData.shown]
    exact .of_is ReprIs.none _ _ _
  | .bl b, _, _, h, _, r, _, _ => by
    rw [h.bl_inv] at r; cases r
    refine ⟨[], (by intro _ z; cases z), ?_⟩
    simp only [py, PyData.shown]
    exact .of_is (ReprIs.bool b) _ _ _
  | .int i, _, _, h, _, r, hs, _ => by
    rw [h.int_inv] at r; obtain ⟨t, rfl⟩ := r
    refine ⟨[], (by intro _ z; cases z), ?_⟩
    simp only [py, PyData.showable, decide_eq_true_eq] at hs
    simp only [py, PyData.shown]
    exact .of_is (ReprIs.int t hs) _ _ _
  | .str x, _, _, h, _, r, _, hz => by
    rw [h.str_inv] at r; obtain ⟨t, rfl⟩ := r
    refine ⟨[], (by intro _ z; cases z), ?_⟩
    simp only [py, PyData.shown] at hz ⊢
    exact .of_is (ReprIs.str x t hz) _ _ _
  | .tup ds, _, _, h, p, r, hs, hz => by
    obtain ⟨as0, rd⟩ := Rep.reads I h p r
    obtain ⟨a, xs, rfl, ht, hr⟩ := h.tup_inv
    cases r
    obtain ⟨its, rv, ⟨o, ho, hc, n, hd⟩, _⟩ := I.tuple ht.sq
    simp only [py, PyData.shown] at hz
    simp only [py, PyData.showable] at hs
    obtain ⟨bs, hb, hk⟩ := RepL.shows I hr (by unfold pur at p; exact p) rv hs fun t z => Nat.le_trans (tupleText_mem_le z) hz
    have out : a ∉ bs := not_mem_of_deeper rd (by simp only [py, PyData.depth]; omega) hb
    refine ⟨a :: bs, .cons rd (by simp only [py, PyData.depth]; omega) hb, ?_⟩
    simp only [py, PyData.depth, PyData.shown]
    exact .tuple ho hc hd out (by simpa using hk)
  | .lst ds, _, _, h, p, r, hs, hz => by
    obtain ⟨as0, rd⟩ := Rep.reads I h p r
    obtain ⟨a, xs, rfl, ht, hr⟩ := h.lst_inv
    cases r
    obtain ⟨its, rv, ⟨o, n, ho, hc, _, hd⟩, _⟩ := I.list ht.sq
    simp only [py, PyData.shown] at hz
    simp only [py, PyData.showable] at hs
    obtain ⟨bs, hb, hk⟩ := RepL.shows I hr (by unfold pur at p; exact p) rv hs fun t z => Nat.le_trans (listText_mem_le z) hz
    have out : a ∉ bs := not_mem_of_deeper rd (by simp only [py, PyData.depth]; omega) hb
    refine ⟨a :: bs, .cons rd (by simp only [py, PyData.depth]; omega) hb, ?_⟩
    simp only [py, PyData.depth, PyData.shown]
    cases its with
    | nil =>
      cases rv
      obtain rfl : ds = [] := List.eq_nil_of_length_eq_zero hr.length
      simp only [pyL, PyData.shownAll, listText_nil, PyData.depthAll]
      exact .listEmpty ho hc hd
    | cons x l =>
      refine .list ho hc hd out ?_ fun i y e => hk.item i y (by simpa using e)
      simpa using hk.length_eq
  | .dct ks ds, _, _, h, p, r, hs, hz => by
    obtain ⟨as0, rd⟩ := Rep.reads I h p r
    unfold Rep at h
    obtain ⟨a, xs, rfl, hH, _, hl, hr⟩ := h
    cases r
    obtain ⟨hsys, o, es, ep, ks', ho, hx, hd, hv, hk⟩ := dct_obj I hH hl
    have l2 : (ks.map keyPy).length = (pyL ds).length := by rw [List.length_map, pyL_length, hl, hr.length]
    simp only [py, PyData.shown] at hz
    simp only [py, PyData.showable] at hs
    obtain ⟨s1, s2⟩ := PyData.showableKv_split _ hs
    rw [zip_fst l2] at s1
    rw [zip_snd l2] at s2
    obtain ⟨b1, hb1, k1⟩ := keys_show (P := X.prog) (w := X.w) (ks := ks) hk s1 fun t z => by
      obtain ⟨q, hq, le⟩ := PyData.shownKv_key_le ((ks.map keyPy).zip (pyL ds)) t (by rw [zip_fst l2]; exact z)
      exact Nat.le_trans le (Nat.le_trans (dictText_mem_le hq) hz)
    obtain ⟨b2, hb2, k2⟩ := RepL.shows I hr (by unfold pur at p; exact p) hv s2 fun t z => by
      obtain ⟨q, hq, le⟩ := PyData.shownKv_val_le ((ks.map keyPy).zip (pyL ds)) t (by rw [zip_snd l2]; exact z)
      exact Nat.le_trans le (Nat.le_trans (dictText_mem_le hq) hz)
    have d1 := PyData.depthAll_keys_le ((ks.map keyPy).zip (pyL ds))
    have d2 := PyData.depthAll_vals_le ((ks.map keyPy).zip (pyL ds))
    rw [zip_fst l2] at d1
    rw [zip_snd l2] at d2
    have hb := atMost_both hb1 hb2 d1 d2
    have out : a ∉ b1 ++ b2 := not_mem_of_deeper rd (by simp only [py, PyData.depth]; omega) hb
    refine ⟨a :: (b1 ++ b2), .cons rd (by simp only [py, PyData.depth]; omega) hb, ?_⟩
    simp only [py, PyData.depth, PyData.shown, PyData.shownKv_eq]
    rw [zip_fst l2, zip_snd l2]
    exact .dict ho hx.1 hd hsys out (.of_two es.toList _ _ (k1.more_le (fun b z => List.mem_append_left _ z) d1) (k2.more_le (fun b z => List.mem_append_right _ z) d2))
  | .cell _, _, _, _, p, _, _, _ => by unfold pur at p; cases p
  | .glob _, _, _, _, p, _, _, _ => by unfold pur at p; cases p
  | .scr _, _, _, _, p, _, _, _ => by unfold pur at p; cases p
theorem RepL.shows (I : Inv X pins σ W.H s) : ∀ {ds : List D} {vs : List V} {us : List Value}, RepL (cn X) W ds vs → purL ds = true → Vals vs us → PyData.showableAll (pyL ds) = true → (∀ t ∈ PyData.shownAll (pyL ds), t.length ≤ sizeLine) →
    ∃ bs, ReadAtMost s.heap (PyData.depthAll (pyL ds)) bs ∧ ReprAllK X.prog X.w bs s.heap (PyData.depthAll (pyL ds)) us (PyData.shownAll (pyL ds))
  | [], _, _, h, _, r, _, _ => by
    rw [h.nil_inv] at r; cases r
    exact ⟨[], (by intro _ z; cases z), .nil⟩
  | d :: ds, _, _, h, p, r, hs, hz => by
    obtain ⟨v, r', rfl, h1, h2⟩ := h.cons_inv
    unfold purL at p
    rw [Bool.and_eq_true] at p
    simp only [pyL, PyData.showableAll, Bool.and_eq_true] at hs
    simp only [pyL, PyData.shownAll, List.mem_cons, forall_eq_or_imp] at hz
    cases r with
    | cons q1 q2 =>
      obtain ⟨b1, m1, k1⟩ := Rep.shows I h1 p.1 q1 hs.1 hz.1
      obtain ⟨b2, m2, k2⟩ := RepL.shows I h2 p.2 q2 hs.2 hz.2
      simp only [pyL, PyData.depthAll, PyData.shownAll]
      refine ⟨b1 ++ b2, atMost_both m1 m2 (Nat.le_max_left _ _) (Nat.le_max_right _ _), ?_⟩
      exact .cons ((k1.more fun b z => List.mem_append_left _ z).level_le (Nat.le_max_left _ _)) (k2.more_le (fun b z => List.mem_append_right _ z) (Nat.le_max_right _ _))
theorem keys_show {P : Program} {w : World} {h : Heap} : ∀ {ks : List Key} {us : List Value} {as : List Addr}, ReadsAll h us (ks.map keyPy) as → PyData.showableAll (ks.map keyPy) = true → (∀ t ∈ PyData.shownAll (ks.map keyPy), t.length ≤ sizeLine) →
    ∃ bs, ReadAtMost h (PyData.depthAll (ks.map keyPy)) bs ∧ ReprAllK P w bs h (PyData.depthAll (ks.map keyPy)) us (PyData.shownAll (ks.map keyPy))
  | [], _, _, h, _, _ => by
    cases h
    exact ⟨[], (by intro _ z; cases z), .nil⟩
  | k :: ks, _, _, h, hs, hz => by
    simp only [List.map_cons, PyData.showableAll, Bool.and_eq_true] at hs
    simp only [List.map_cons, PyData.shownAll, List.mem_cons, forall_eq_or_imp] at hz
    cases h with
    | cons q1 q2 =>
      obtain ⟨b2, m2, k2⟩ := keys_show (P := P) (w := w) q2 hs.2 hz.2
      simp only [List.map_cons, PyData.depthAll, PyData.shownAll]
      refine ⟨b2, m2.mono (Nat.le_max_right _ _), .cons ?_ (k2.more_le (fun b z => z) (Nat.le_max_right _ _))⟩
      cases k with
      | inl i =>
        cases q1
        have q : i.natAbs.log2 < 1920 := by simpa [keyPy, PyData.showable] using hs.1
        simp only [keyPy, PyData.shown]
        exact .of_is (ReprIs.int _ q) _ _ _
      | inr x =>
        cases q1
        have q := hz.1
        simp only [keyPy, PyData.shown] at q ⊢
        exact .of_is (ReprIs.str x _ q) _ _ _
end
end
end Pd

namespace Pd
open PySem PySem.Spec L2
open PyProof.Rows hiding St

/-! ## equality -/
def deref (st : Sto) : D → D
  | .cell n => match st[n]? with | some (.lst ds) => .lst ds | _ => .cell n
  | d => d
theorem deref_cell (st : Sto) (n : Nat) : deref st (.cell n) = (match st[n]? with | some (.lst ds) => .lst ds | _ => .cell n) := rfl
def lowB (a b : D) : Bool := decide (min (py a).depth (py b).depth ≤ 150)
/-- == as data: by lengths where one side is empty -/
def emptyOne : D → D → Option Bool
  | .lst ds, .lst es => if ds.isEmpty || es.isEmpty then some (ds.length == es.length) else none
  | .tup ds, .tup es => if ds.isEmpty || es.isEmpty then some (ds.length == es.length) else none
  | _, _ => none
def eqB (a b : D) : Option Bool := match emptyOne a b with
  | some r => some r
  | none => if pln a && pln b && lowB a b then some (PyData.eqv (py a) (py b)) else none
theorem emptyOne_some {a b : D} {r : Bool} (h : emptyOne a b = some r) : ∃ ds es, ((a = .lst ds ∧ b = .lst es) ∨ (a = .tup ds ∧ b = .tup es)) ∧ (ds = [] ∨ es = []) ∧ r = (ds.length == es.length) := by
  unfold emptyOne at h
  split at h
  · rename_i ds es
    split at h
    · rename_i c
      cases h
      exact ⟨ds, es, .inl ⟨rfl, rfl⟩, by simpa using c, rfl⟩
    · cases h
  · rename_i ds es
    split at h
    · rename_i c
      cases h
      exact ⟨ds, es, .inr ⟨rfl, rfl⟩, by simpa using c, rfl⟩
    · cases h
  · cases h
def eqD (a b : D) (st : Sto) : Option D := (eqB (deref st a) (deref st b)).map .bl
def neD (a b : D) (st : Sto) : Option D := (eqB (deref st a) (deref st b)).map fun k => .bl (!k)
section
variable {X : Cx} {pins : List (Addr × Obj)} {σ : St} {W : Wd} {s : Shared} {k : Nat}
/-- the object of a list or a cell -/
theorem lst_obj (I : Inv X pins σ W.H s) (ok : WOk (cn X) W) {d : D} {v : V} {ds : List D} (r : Rep (cn X) W d v) (e : deref W.st d = .lst ds) : ∃ a xs, v = .ref a ∧ W.H a = some (.lst xs) ∧ RepL (cn X) W ds xs := by
  cases d with
  | lst es =>
    cases e
    obtain ⟨a, xs, h1, h2, h3⟩ := r.lst_inv
    exact ⟨a, xs, h1, h2.1, h3⟩
  | cell n =>
    rw [deref_cell] at e
    cases h : W.st[n]? with
    | none => rw [h] at e; cases e
    | some c =>
      rw [h] at e
      cases c with
      | lst es =>
        cases e
        obtain ⟨a, xs, h1, _, h2, h3⟩ := cell_lst ok r h
        exact ⟨a, xs, h1, h2, h3⟩
      | dct _ _ => cases e
      | dead => cases e
  | _ => cases e
theorem deref_id {st : Sto} {d e : D} (h : deref st d = e) (n : ∀ ds, e ≠ .lst ds) : e = d := by
  cases d with
  | cell n' =>
    rw [deref_cell] at h
    cases hs : st[n']? with
    | none => rw [hs] at h; exact h.symm
    | some c =>
      rw [hs] at h
      cases c with
      | lst ds => exact absurd h.symm (n ds)
      | dct _ _ => exact h.symm
      | dead => exact h.symm
  | _ => exact h.symm
theorem deref_reads (I : Inv X pins σ W.H s) (ok : WOk (cn X) W) {d : D} {v : V} {u : Value} (r : Rep (cn X) W d v) (p : pur (deref W.st d) = true) (rv : RelV v u) : ∃ as, Reads s.heap u (py (deref W.st d)) as := by
  cases e : deref W.st d with
  | lst ds =>
    obtain ⟨a, xs, rfl, h1, h2⟩ := lst_obj I ok r e
    cases rv
    obtain ⟨its, rv, ⟨o, n, ho, hc, _, hd⟩, _⟩ := I.list (SqL.of h1)
    rw [e] at p
    obtain ⟨as, q⟩ := RepL.reads I h2 (by unfold pur at p; exact p) rv
    exact ⟨_, .list ho hc hd q⟩
  | _ =>
    rw [e] at p
    have := deref_id e (by intro _ z; cases z)
    subst this
    exact Rep.reads I r p rv
theorem RG.low (r : RG k X.A) {n : Nat} (h : n ≤ 150) : X.A.units + n < cLine := by have := r.rm.un; omega
theorem low_of {a b : D} (h : lowB a b = true) : min (py a).depth (py b).depth ≤ 150 := of_decide_eq_true h
theorem eqB_gen {a b : D} {r : Bool} (h : (if pln a && pln b && lowB a b then some (PyData.eqv (py a) (py b)) else none) = some r) : pln a = true ∧ pln b = true ∧ lowB a b = true ∧ r = PyData.eqv (py a) (py b) := by
  by_cases c : (pln a && pln b && lowB a b) = true
  · rw [if_pos c] at h
    simp only [Bool.and_eq_true] at c
    exact ⟨c.1.1, c.1.2, c.2, (Option.some.inj h).symm⟩
  · rw [if_neg c] at h; cases h
/-- a comparison that data decide: both ways -/
theorem cmp_data (b : RG k X.A) {da db : D} {v u : V} {vv uv : Value} {r : Bool} (I : Inv X pins σ W.H s) (ok : WOk (cn X) W) (ra : Rep (cn X) W da v) (rb : Rep (cn X) W db u) (rx : RelV v vv) (ry : RelV u uv)
    (h : eqB (deref W.st da) (deref W.st db) = some r) : (∀ (Q : Value → Shared → Prop) (E : Value → Shared → Prop), Q (.bool r) s → wpAny (model X.prog X.w) X.A (compareOp .Eq vv uv) Q E s) ∧
      (∀ (Q : Value → Shared → Prop) (E : Value → Shared → Prop), Q (.bool (!r)) s → wpAny (model X.prog X.w) X.A (compareOp .NotEq vv uv) Q E s) := by
  unfold eqB at h
  cases he : emptyOne (deref W.st da) (deref W.st db) with
  | none =>
    rw [he] at h
    obtain ⟨p1, p2, lo, hr⟩ := eqB_gen h
    obtain ⟨as, r1⟩ := deref_reads I ok ra (pur_of_pln _ p1) rx
    obtain ⟨bs, r2⟩ := deref_reads I ok rb (pur_of_pln _ p2) ry
    exact ⟨fun Q E q => SeqAt.eq_plain r1 r2 (py_plain _ p1) (py_plain _ p2) (b.low (low_of lo)) (by rw [← hr]; exact q),
      fun Q E q => SeqAt.ne_plain r1 r2 (py_plain _ p1) (py_plain _ p2) (b.low (low_of lo)) (by rw [← hr]; exact q)⟩
  | some r' =>
    rw [he] at h
    cases h
    obtain ⟨ds, es, ht, hl, rfl⟩ := emptyOne_some he
    rcases ht with ⟨e1, e2⟩ | ⟨e1, e2⟩
    · obtain ⟨a1, xs1, rfl, h1, q1⟩ := lst_obj I ok ra e1
      obtain ⟨a2, xs2, rfl, h2, q2⟩ := lst_obj I ok rb e2
      cases rx; cases ry
      obtain ⟨i1, v1, p1, _⟩ := I.list (SqL.of h1)
      obtain ⟨i2, v2, p2, _⟩ := I.list (SqL.of h2)
      have l1 : i1.toArray.size = ds.length := by rw [List.size_toArray, ← v1.length, ← q1.length]
      have l2 : i2.toArray.size = es.length := by rw [List.size_toArray, ← v2.length, ← q2.length]
      cases hc : (ds.length == es.length) with
      | false =>
        have hne : (i1.toArray.size != i2.toArray.size) = true := by rw [l1, l2]; simp [bne, hc]
        exact ⟨fun Q E q => SeqAt.RcAt.lists_lengths p1.isList p2.isList hne b.rm.units0 X.prog X.w E Q q, fun Q E q => SeqAt.RcNeAt.lists_lengths p1.isList p2.isList hne b.rm.units0 X.prog X.w E Q q⟩
      | true =>
        have heq : ds.length = es.length := by simpa using hc
        have z : i1.toArray.size = 0 := by
          rw [l1]
          rcases hl with z | z
          · subst z; rfl
          · subst z; exact heq
        have sz : i1.toArray.size = i2.toArray.size := by rw [l1, l2, heq]
        refine ⟨fun Q E q => SeqAt.RcAt.lists (e := fun _ => true) p1.isList p2.isList sz b.rm.units0 (fun j j1 j2 => by omega) X.prog X.w E Q ?_, fun Q E q => SeqAt.RcNeAt.lists (e := fun _ => true) p1.isList p2.isList sz b.rm.units0 (fun j j1 j2 => by omega) X.prog X.w E Q ?_⟩
        · rw [z]; exact q
        · rw [z]; exact q
    · have z1 := deref_id e1 (by intro _ z; cases z)
      have z2 := deref_id e2 (by intro _ z; cases z)
      subst z1 z2
      obtain ⟨a1, xs1, rfl, h1, q1⟩ := ra.tup_inv
      obtain ⟨a2, xs2, rfl, h2, q2⟩ := rb.tup_inv
      cases rx; cases ry
      obtain ⟨i1, v1, p1, _⟩ := I.tuple h1.sq
      obtain ⟨i2, v2, p2, _⟩ := I.tuple h2.sq
      have l1 : i1.toArray.size = ds.length := by rw [List.size_toArray, ← v1.length, ← q1.length]
      have l2 : i2.toArray.size = es.length := by rw [List.size_toArray, ← v2.length, ← q2.length]
      have m0 : min i1.toArray.size i2.toArray.size = 0 := by
        rw [l1, l2]
        rcases hl with z | z <;> subst z <;> simp
      have val : ((List.range (min i1.toArray.size i2.toArray.size)).all (fun _ => true) && i1.toArray.size == i2.toArray.size) = (ds.length == es.length) := by rw [m0, l1, l2]; rfl
      exact ⟨fun Q E q => SeqAt.RcAt.tuples (e := fun _ => true) p1 p2 b.rm.units0 (fun j j1 j2 => by omega) X.prog X.w E Q (by rw [val]; exact q),
        fun Q E q => SeqAt.RcNeAt.tuples (e := fun _ => true) p1 p2 b.rm.units0 (fun j j1 j2 => by omega) X.prog X.w E Q (by rw [val]; exact q)⟩
theorem op_eqD' (b : RG k X.A) : OpD X (compareOp .Eq) eqD := by
  intro pins s σ H x y v u Q I rx ry ⟨W, da, db, d, e, ok, ra, rb, hg, q⟩
  subst e
  unfold eqD at hg
  cases h : eqB (deref W.st da) (deref W.st db) with
  | none => rw [h] at hg; cases hg
  | some r =>
    rw [h] at hg
    cases hg
    exact (cmp_data b I ok ra rb rx ry h).1 _ _ ⟨.bl r, W.H, I, rfl, q W _ rfl ok (Ext.refl _) (.bl r)⟩
theorem op_neD' (b : RG k X.A) : OpD X (compareOp .NotEq) neD := by
  intro pins s σ H x y v u Q I rx ry ⟨W, da, db, d, e, ok, ra, rb, hg, q⟩
  subst e
  unfold neD at hg
  cases h : eqB (deref W.st da) (deref W.st db) with
  | none => rw [h] at hg; cases hg
  | some r =>
    rw [h] at hg
    cases hg
    exact (cmp_data b I ok ra rb rx ry h).2 _ _ ⟨.bl (!r), W.H, I, rfl, q W _ rfl ok (Ext.refl _) (.bl _)⟩
end

/-! ## in -/
/-- x in a list or a tuple of data; a text in a text -/
def inB (st : Sto) (x : D) (c : D) : Option Bool := match deref st c with
  | .lst es => if pln x && plnL es && decide ((py x).depth ≤ 150) then some (es.any fun y => PyData.eqv (py y) (py x)) else none
  | .tup es => if pln x && plnL es && decide ((py x).depth ≤ 150) then some (es.any fun y => PyData.eqv (py y) (py x)) else none
  | .str j => match x with | .str i => some (!(Builtin.Str.occurrences j i 0 j.length 1).isEmpty) | _ => none
  | _ => none
def inD (a b : D) (st : Sto) : Option D := (inB st a b).map .bl
def notInD (a b : D) (st : Sto) : Option D := (inB st a b).map fun k => .bl (!k)
section
variable {X : Cx} {pins : List (Addr × Obj)} {σ : St} {W : Wd} {s : Shared} {k : Nat}
theorem any_py (es : List D) (p : PyData) : ((pyL es).any fun y => PyData.eqv y p) = es.any fun y => PyData.eqv (py y) p := by
  rw [pyL_map, List.any_map]; rfl
theorem in_data (b : RG k X.A) {da db : D} {v u : V} {vv uv : Value} {r : Bool} (I : Inv X pins σ W.H s) (ok : WOk (cn X) W) (ra : Rep (cn X) W da v) (rb : Rep (cn X) W db u) (rx : RelV v vv) (ry : RelV u uv)
    (h : inB W.st da db = some r) : (∀ (Q : Value → Shared → Prop) (E : Value → Shared → Prop), Q (.bool r) s → wpAny (model X.prog X.w) X.A (compareOp .In vv uv) Q E s) ∧
      (∀ (Q : Value → Shared → Prop) (E : Value → Shared → Prop), Q (.bool (!r)) s → wpAny (model X.prog X.w) X.A (compareOp .NotIn vv uv) Q E s) := by
  unfold inB at h
  have go : ∀ {es : List D}, (if pln da && plnL es && decide ((py da).depth ≤ 150) then some (es.any fun y => PyData.eqv (py y) (py da)) else none) = some r →
      ∃ as, Reads s.heap vv (py da) as ∧ plnL es = true ∧ (py da).plain = true ∧ X.A.units + 1 + min (PyData.depthAll (pyL es)) (py da).depth < cLine ∧ r = ((pyL es).any fun y => PyData.eqv y (py da)) := fun {es} h => by
    by_cases c : (pln da && plnL es && decide ((py da).depth ≤ 150)) = true
    · rw [if_pos c] at h
      simp only [Bool.and_eq_true, decide_eq_true_eq] at c
      obtain ⟨as, r1⟩ := Rep.reads I ra (pur_of_pln _ c.1.1) rx
      refine ⟨as, r1, c.1.2, py_plain _ c.1.1, ?_, by rw [any_py]; exact (Option.some.inj h).symm⟩
      have := b.rm.un
      have := c.2
      omega
    · rw [if_neg c] at h; cases h
  cases e : deref W.st db with
  | lst es =>
    rw [e] at h
    obtain ⟨as, r1, pe, pd, lo, rfl⟩ := go h
    obtain ⟨bs, r2⟩ := deref_reads I ok rb (by rw [e]; unfold pur; exact purL_of_plnL es pe) ry
    rw [e] at r2
    exact ⟨fun Q E q => SeqAt.in_list_data r2 r1 (pyL_plain es pe) pd lo q, fun Q E q => SeqAt.notIn_list_data r2 r1 (pyL_plain es pe) pd lo q⟩
  | tup es =>
    rw [e] at h
    obtain ⟨as, r1, pe, pd, lo, rfl⟩ := go h
    obtain ⟨bs, r2⟩ := deref_reads I ok rb (by rw [e]; unfold pur; exact purL_of_plnL es pe) ry
    rw [e] at r2
    exact ⟨fun Q E q => SeqAt.in_tuple_data r2 r1 (pyL_plain es pe) pd lo q, fun Q E q => SeqAt.notIn_tuple_data r2 r1 (pyL_plain es pe) pd lo q⟩
  | str j =>
    rw [e] at h
    have z := deref_id e (by intro _ z; cases z)
    subst z
    cases da with
    | str i =>
      cases h
      rw [ra.str_inv] at rx
      rw [rb.str_inv] at ry
      obtain ⟨t, rfl⟩ := rx
      obtain ⟨t', rfl⟩ := ry
      exact ⟨fun Q E q => PyProof.Rows.in_str q, fun Q E q => PyProof.Rows.notIn_str q⟩
    | _ => cases h
  | _ => rw [e] at h; cases h
theorem op_inD (b : RG k X.A) : OpD X (compareOp .In) inD := by
  intro pins s σ H x y v u Q I rx ry ⟨W, da, db, d, e, ok, ra, rb, hg, q⟩
  subst e
  unfold inD at hg
  cases h : inB W.st da db with
  | none => rw [h] at hg; cases hg
  | some r =>
    rw [h] at hg
    cases hg
    exact (in_data b I ok ra rb rx ry h).1 _ _ ⟨.bl r, W.H, I, rfl, q W _ rfl ok (Ext.refl _) (.bl r)⟩
theorem op_notInD (b : RG k X.A) : OpD X (compareOp .NotIn) notInD := by
  intro pins s σ H x y v u Q I rx ry ⟨W, da, db, d, e, ok, ra, rb, hg, q⟩
  subst e
  unfold notInD at hg
  cases h : inB W.st da db with
  | none => rw [h] at hg; cases hg
  | some r =>
    rw [h] at hg
    cases hg
    exact (in_data b I ok ra rb rx ry h).2 _ _ ⟨.bl (!r), W.H, I, rfl, q W _ rfl ok (Ext.refl _) (.bl _)⟩
end

/-! ## numbers, order, is -/
def b2I (b : Bool) : Int := if b = true then 1 else 0
def addD (a b : D) (st : Sto) : Option D := match a, b with
  | .int i, .int j => some (.int (i + j))
  | .int i, .bl j => some (.int (i + b2I j))
  | .bl i, .int j => some (.int (b2I i + j))
  | .str x, .str y => if small (x.length + y.length) then some (.str (x ++ y)) else none
  | .tup xs, .tup ys => if small (xs.length + ys.length) then some (.tup (xs ++ ys)) else none
  | a, b => match deref st a, deref st b with
    | .lst xs, .lst ys => if small (xs.length + ys.length) then some (.lst (xs ++ ys)) else none
    | _, _ => none
def subD (a b : D) (_ : Sto) : Option D := match a, b with
  | .int i, .int j => some (.int (i - j))
  | .int i, .bl j => some (.int (i - b2I j))
  | .bl i, .int j => some (.int (b2I i - j))
  | _, _ => none
def mulD (a b : D) (_ : Sto) : Option D := match a, b with
  | .int i, .int j => if i.natAbs.log2 + j.natAbs.log2 < 1000000 then some (.int (i * j)) else none
  | .tup xs, .int k => if xs.isEmpty = false ∧ 2 ≤ k ∧ k ≤ 1000 ∧ xs.length ≤ 1000 then some (.tup (List.replicate k.toNat xs).flatten) else none
  | .str x, .int k => if 1 ≤ k ∧ k ≤ 1000 ∧ x.length ≤ 1000 then some (.str (Txt.mul x k)) else none
  | _, _ => none
def fdivD (a b : D) (_ : Sto) : Option D := match a, b with
  | .int i, .int j => if 0 < j ∧ j.natAbs.log2 < 9000 then some (.int (i / j)) else none
  | _, _ => none
def modD (a b : D) (_ : Sto) : Option D := match a, b with
  | .int i, .int j => if 0 < j then some (.int (i % j)) else none
  | _, _ => none
def powD (a b : D) (_ : Sto) : Option D := match a, b with
  | .int i, .int j => if 0 ≤ j ∧ j ≤ 1000000 ∧ i.natAbs < 2 ^ 64 then some (.int (i ^ j.toNat)) else none
  | _, _ => none
def ltD (a b : D) (_ : Sto) : Option D := match a, b with
  | .int i, .int j => some (.bl (decide (i < j)))
  | .str x, .str y => some (.bl (decide (x.cps.toList < y.cps.toList)))
  | _, _ => none
def leD (a b : D) (_ : Sto) : Option D := match a, b with
  | .int i, .int j => some (.bl (decide (i ≤ j)))
  | .str x, .str y => some (.bl (!decide (y.cps.toList < x.cps.toList)))
  | _, _ => none
def gtD (a b : D) (_ : Sto) : Option D := match a, b with
  | .int i, .int j => some (.bl (decide (j < i)))
  | _, _ => none
def geD (a b : D) (_ : Sto) : Option D := match a, b with
  | .int i, .int j => some (.bl (decide (j ≤ i)))
  | _, _ => none
/-- is: truths, and what is (not) None -/
def isB : D → D → Option Bool
  | .bl a, .bl b => some (a == b)
  | .non, .non => some true
  | .cell _, .non | .glob _, .non | .scr _, .non | .bl _, .non | .int _, .non | .str _, .non | .tup _, .non | .lst _, .non | .dct _ _, .non => some false
  | _, _ => none
def isD (a b : D) (_ : Sto) : Option D := (isB a b).map .bl
def isNotD (a b : D) (_ : Sto) : Option D := (isB a b).map fun k => .bl (!k)
section
variable {X : Cx} {k : Nat}
/-- a value that is no object, out of an operation that the library knows -/
theorem fin_flat {W : Wd} {Q : VK} {d : D} {v : V} (ok : WOk (cn X) W) (q : ∀ W' v, W'.st = W.st → WOk (cn X) W' → Ext W W' → Rep (cn X) W' d v → Q v W'.H) (r : Rep (cn X) W d v) : Q v W.H := q W v rfl ok (Ext.refl _) r
theorem flat_op {f : Value → Value → Sem Value} {r : R2} (ho : OpR X f r) {pins : List (Addr × Obj)} {σ : St} {W : Wd} {s : Shared} {Q : VK} {x y : V} {v u : Value} (I : Inv X pins σ W.H s) (rx : RelV x v) (ry : RelV y u) (h : r x y W.H Q) :
    wpAny (model X.prog X.w) X.A (f v u) (EP X pins σ Q) X.xe s := ho pins s σ W.H x y v u Q I rx ry h
theorem op_addD : OpD X (binaryOp .Add) addD := by
  intro pins s σ H x y v u Q I rx ry ⟨W, da, db, d, e, ok, ra, rb, hg, q⟩
  subst e
  have lists : (match deref W.st da, deref W.st db with
    | .lst xs, .lst ys => if small (xs.length + ys.length) then some (D.lst (xs ++ ys)) else none
    | _, _ => none) = some d → wpAny (model X.prog X.w) X.A (binaryOp .Add v u) (EP X pins σ Q) X.xe s := fun hg => by
    cases ea : deref W.st da with
    | lst xs =>
      cases eb : deref W.st db with
      | lst ys =>
        rw [ea, eb] at hg
        simp only at hg
        by_cases c : small (xs.length + ys.length) = true
        · rw [if_pos c] at hg
          cases hg
          obtain ⟨a1, xs1, rfl, h1, q1⟩ := lst_obj I ok ra ea
          obtain ⟨a2, xs2, rfl, h2, q2⟩ := lst_obj I ok rb eb
          have hz : xs1.length + xs2.length ≤ sizeLine := by rw [← q1.length, ← q2.length]; exact small_iff.mp c
          refine flat_op op_cat I rx ry ⟨a1, a2, xs1, xs2, rfl, rfl, h1, h2, hz, fun p hp => ?_⟩
          exact q (W.lay p _) _ rfl (lay_ok ok hp _) (lay_ext ok hp _) (lay_lst ok hp (q1.append q2))
        · rw [if_neg c] at hg; cases hg
      | _ => rw [ea, eb] at hg; cases hg
    | _ => rw [ea] at hg; cases hg
  unfold addD at hg
  split at hg
  · cases hg
    rw [ra.int_inv] at rx
    rw [rb.int_inv] at ry
    exact flat_op op_add I rx ry ⟨_, _, rfl, rfl, fin_flat ok q (.int _)⟩
  · cases hg
    rw [ra.int_inv] at rx
    rw [rb.bl_inv] at ry
    exact flat_op op_add_ib I rx ry ⟨_, _, rfl, rfl, fin_flat ok q (.int _)⟩
  · cases hg
    rw [ra.bl_inv] at rx
    rw [rb.int_inv] at ry
    obtain ⟨t, rfl⟩ := ry
    cases rx
    exact PySem.IntBool.add_bool_int ⟨.int _, W.H, I.tok _, ⟨_, rfl⟩, fin_flat ok q (.int _)⟩
  · rename_i x' y'
    by_cases c : small (x'.length + y'.length) = true
    · rw [if_pos c] at hg
      cases hg
      rw [ra.str_inv] at rx
      rw [rb.str_inv] at ry
      exact flat_op op_add_str I rx ry ⟨_, _, rfl, rfl, small_iff.mp c, fin_flat ok q (.str _)⟩
    · rw [if_neg c] at hg; cases hg
  · rename_i xs ys
    by_cases c : small (xs.length + ys.length) = true
    · rw [if_pos c] at hg
      cases hg
      obtain ⟨a1, xs1, rfl, h1, q1⟩ := ra.tup_inv
      obtain ⟨a2, xs2, rfl, h2, q2⟩ := rb.tup_inv
      refine flat_op op_catA I rx ry ⟨a1, a2, xs1, xs2, rfl, rfl, h1.sq, h2.sq, by rw [← q1.length, ← q2.length]; exact small_iff.mp c, fun z => ?_, fun _ z => ?_, fun _ _ p hp => ?_⟩
      · subst z
        have : xs = [] := List.eq_nil_of_length_eq_zero q1.length
        subst this
        exact q W _ rfl ok (Ext.refl _) rb
      · subst z
        have : ys = [] := List.eq_nil_of_length_eq_zero q2.length
        subst this
        rw [List.append_nil] at q
        exact q W _ rfl ok (Ext.refl _) ra
      · exact q (W.lay p _) _ rfl (lay_ok ok hp _) (lay_ext ok hp _) (lay_tup ok hp (q1.append q2))
    · rw [if_neg c] at hg; cases hg
  · exact lists hg
theorem op_subD : OpD X (binaryOp .Sub) subD := by
  intro pins s σ H x y v u Q I rx ry ⟨W, da, db, d, e, ok, ra, rb, hg, q⟩
  subst e
  unfold subD at hg
  split at hg
  · cases hg
    rw [ra.int_inv] at rx
    rw [rb.int_inv] at ry
    exact flat_op op_sub I rx ry ⟨_, _, rfl, rfl, fin_flat ok q (.int _)⟩
  · cases hg
    rw [ra.int_inv] at rx
    rw [rb.bl_inv] at ry
    obtain ⟨t, rfl⟩ := rx
    cases ry
    exact PySem.IntBool.sub_int_bool ⟨.int _, W.H, I.tok _, ⟨_, rfl⟩, fin_flat ok q (.int _)⟩
  · cases hg
    rw [ra.bl_inv] at rx
    rw [rb.int_inv] at ry
    obtain ⟨t, rfl⟩ := ry
    cases rx
    exact PySem.IntBool.sub_bool_int ⟨.int _, W.H, I.tok _, ⟨_, rfl⟩, fin_flat ok q (.int _)⟩
  · cases hg
theorem mulOk_small {x : Str} {k : Int} (c : 1 ≤ k ∧ k ≤ 1000 ∧ x.length ≤ 1000) : MulOk x k := by
  obtain ⟨c1, c2, c3⟩ := c
  refine ⟨?_, fun _ _ => ?_, fun _ _ => ?_⟩
  · rw [Bool.or_eq_false_iff]
    exact ⟨decide_eq_false (by omega), decide_eq_false (by omega)⟩
  · have h : (1000 : Int) ≤ (2 ^ 63 - 1) / k := (Int.le_ediv_iff_mul_le (by omega)).mpr (by omega)
    omega
  · have h : x.length * k.toNat ≤ 1000 * 1000 := Nat.mul_le_mul c3 (by omega)
    have h2 : x.length * k.toNat ≤ sizeLine := Nat.le_trans h (by decide)
    exact decide_eq_false (by omega)
theorem op_mulD : OpD X (binaryOp .Mult) mulD := by
  intro pins s σ H x y v u Q I rx ry ⟨W, da, db, d, e, ok, ra, rb, hg, q⟩
  subst e
  unfold mulD at hg
  split at hg
  · split at hg
    · rename_i c
      cases hg
      rw [ra.int_inv] at rx
      rw [rb.int_inv] at ry
      exact flat_op op_mulW I rx ry ⟨_, _, rfl, rfl, c, fin_flat ok q (.int _)⟩
    · cases hg
  · rename_i xs k
    split at hg
    · rename_i c
      cases hg
      obtain ⟨a1, xs1, rfl, h1, q1⟩ := ra.tup_inv
      rw [rb.int_inv] at ry
      refine flat_op op_repT I rx ry ⟨a1, k, xs1, rfl, rfl, h1.sq, ?_, c.2.1, c.2.2.1, by rw [← q1.length]; exact c.2.2.2, fun p hp => ?_⟩
      · intro z
        subst z
        have : xs = [] := List.eq_nil_of_length_eq_zero q1.length
        subst this
        exact absurd c.1 (by simp)
      · have many : ∀ n : Nat, RepL (cn X) W (List.replicate n xs).flatten (List.replicate n xs1).flatten := fun n => by
          induction n with
          | zero => exact .nil
          | succ n ih => rw [List.replicate_succ, List.replicate_succ, List.flatten_cons, List.flatten_cons]; exact q1.append ih
        exact q (W.lay p _) _ rfl (lay_ok ok hp _) (lay_ext ok hp _) (lay_tup ok hp (many k.toNat))
    · cases hg
  · rename_i x k
    split at hg
    · rename_i c
      cases hg
      rw [ra.str_inv] at rx
      rw [rb.int_inv] at ry
      obtain ⟨t, rfl⟩ := rx
      obtain ⟨t', rfl⟩ := ry
      exact PySem.SB.mul (mulOk_small c) fun t' k' => ⟨.str _, W.H, I.tok _, ⟨_, rfl⟩, fin_flat ok q (.str _)⟩
    · cases hg
  · cases hg
theorem op_fdivD : OpD X (binaryOp .FloorDiv) fdivD := by
  intro pins s σ H x y v u Q I rx ry ⟨W, da, db, d, e, ok, ra, rb, hg, q⟩
  subst e
  unfold fdivD at hg
  split at hg
  · split at hg
    · rename_i c
      cases hg
      rw [ra.int_inv] at rx
      rw [rb.int_inv] at ry
      exact flat_op op_fdivW I rx ry ⟨_, _, rfl, rfl, c, fin_flat ok q (.int _)⟩
    · cases hg
  · cases hg
theorem op_modD : OpD X (binaryOp .Mod) modD := by
  intro pins s σ H x y v u Q I rx ry ⟨W, da, db, d, e, ok, ra, rb, hg, q⟩
  subst e
  unfold modD at hg
  split at hg
  · split at hg
    · rename_i c
      cases hg
      rw [ra.int_inv] at rx
      rw [rb.int_inv] at ry
      exact flat_op op_mod I rx ry ⟨_, _, rfl, rfl, c, fin_flat ok q (.int _)⟩
    · cases hg
  · cases hg
theorem op_powD : OpD X (binaryOp .Pow) powD := by
  intro pins s σ H x y v u Q I rx ry ⟨W, da, db, d, e, ok, ra, rb, hg, q⟩
  subst e
  unfold powD at hg
  split at hg
  · split at hg
    · rename_i c
      cases hg
      rw [ra.int_inv] at rx
      rw [rb.int_inv] at ry
      exact flat_op op_pow I rx ry ⟨_, _, rfl, rfl, c, fin_flat ok q (.int _)⟩
    · cases hg
  · cases hg
theorem op_ltD : OpD X (compareOp .Lt) ltD := by
  intro pins s σ H x y v u Q I rx ry ⟨W, da, db, d, e, ok, ra, rb, hg, q⟩
  subst e
  unfold ltD at hg
  split at hg
  · cases hg
    rw [ra.int_inv] at rx
    rw [rb.int_inv] at ry
    exact flat_op op_lt I rx ry ⟨_, _, rfl, rfl, fin_flat ok q (.bl _)⟩
  · cases hg
    rw [ra.str_inv] at rx
    rw [rb.str_inv] at ry
    exact flat_op op_lt_str I rx ry ⟨_, _, rfl, rfl, fin_flat ok q (.bl _)⟩
  · cases hg
theorem op_gtD : OpD X (compareOp .Gt) gtD := by
  intro pins s σ H x y v u Q I rx ry ⟨W, da, db, d, e, ok, ra, rb, hg, q⟩
  subst e
  unfold gtD at hg
  split at hg
  · cases hg
    rw [ra.int_inv] at rx
    rw [rb.int_inv] at ry
    exact flat_op op_gt I rx ry ⟨_, _, rfl, rfl, fin_flat ok q (.bl _)⟩
  · cases hg
theorem op_geD : OpD X (compareOp .GtE) geD := by
  intro pins s σ H x y v u Q I rx ry ⟨W, da, db, d, e, ok, ra, rb, hg, q⟩
  subst e
  unfold geD at hg
  split at hg
  · cases hg
    rw [ra.int_inv] at rx
    rw [rb.int_inv] at ry
    exact flat_op op_ge I rx ry ⟨_, _, rfl, rfl, fin_flat ok q (.bl _)⟩
  · cases hg
theorem op_leD : OpD X (compareOp .LtE) leD := by
  intro pins s σ H x y v u Q I rx ry ⟨W, da, db, d, e, ok, ra, rb, hg, q⟩
  subst e
  unfold leD at hg
  split at hg
  · cases hg
    rw [ra.int_inv] at rx
    rw [rb.int_inv] at ry
    exact flat_op op_le I rx ry ⟨_, _, rfl, rfl, fin_flat ok q (.bl _)⟩
  · cases hg
    rw [ra.str_inv] at rx
    rw [rb.str_inv] at ry
    exact flat_op op_le_str I rx ry ⟨_, _, rfl, rfl, fin_flat ok q (.bl _)⟩
  · cases hg
theorem isB_non {da : D} {r : Bool} (h : isB da .non = some r) {C : Cn} {W : Wd} {v : V} (ra : Rep C W da v) : r = decide (v = .non) := by
  cases da with
  | non => rw [ra.non_inv]; cases h; rfl
  | bl b => rw [ra.bl_inv]; cases h; rfl
  | int b => rw [ra.int_inv]; cases h; rfl
  | str b => rw [ra.str_inv]; cases h; rfl
  | tup b => obtain ⟨a, xs, rfl, _⟩ := ra.tup_inv; cases h; rfl
  | lst b => obtain ⟨a, xs, rfl, _⟩ := ra.lst_inv; cases h; rfl
  | dct k b => unfold Rep at ra; obtain ⟨a, xs, rfl, _⟩ := ra; cases h; rfl
  | cell n => obtain ⟨a, rfl, _⟩ := ra.cell_inv; cases h; rfl
  | glob n => unfold Rep at ra; obtain ⟨a, rfl, _⟩ := ra; cases h; rfl
  | scr n => unfold Rep at ra; obtain ⟨a, rfl, _⟩ := ra; cases h; rfl
theorem isB_cases {da db : D} {r : Bool} (h : isB da db = some r) : (∃ a b, da = .bl a ∧ db = .bl b ∧ r = (a == b)) ∨ db = .non := by
  unfold isB at h
  split at h
  · cases h; exact .inl ⟨_, _, rfl, rfl, rfl⟩
  all_goals first | exact .inr rfl | cases h
theorem op_isD : OpD X (compareOp .Is) isD := by
  intro pins s σ H x y v u Q I rx ry ⟨W, da, db, d, e, ok, ra, rb, hg, q⟩
  subst e
  unfold isD at hg
  cases h : isB da db with
  | none => rw [h] at hg; cases hg
  | some r =>
    rw [h] at hg
    cases hg
    rcases isB_cases h with ⟨a, b, rfl, rfl, rfl⟩ | rfl
    · rw [ra.bl_inv] at rx
      rw [rb.bl_inv] at ry
      exact flat_op op_isBl I rx ry ⟨a, b, rfl, rfl, by rw [show decide (a = b) = (a == b) by cases a <;> cases b <;> rfl]; exact fin_flat ok q (.bl _)⟩
    · rw [rb.non_inv] at ry
      exact flat_op op_isN I rx ry ⟨rfl, by rw [← isB_non h ra]; exact fin_flat ok q (.bl _)⟩
theorem op_isNotD : OpD X (compareOp .IsNot) isNotD := by
  intro pins s σ H x y v u Q I rx ry ⟨W, da, db, d, e, ok, ra, rb, hg, q⟩
  subst e
  unfold isNotD at hg
  cases h : isB da db with
  | none => rw [h] at hg; cases hg
  | some r =>
    rw [h] at hg
    cases hg
    rcases isB_cases h with ⟨a, b, rfl, rfl, rfl⟩ | rfl
    · rw [ra.bl_inv] at rx
      rw [rb.bl_inv] at ry
      exact flat_op op_notBl I rx ry ⟨a, b, rfl, rfl, by rw [show decide (a = b) = (a == b) by cases a <;> cases b <;> rfl]; exact fin_flat ok q (.bl _)⟩
    · rw [rb.non_inv] at ry
      exact flat_op op_notN I rx ry ⟨rfl, by rw [← isB_non h ra]; exact fin_flat ok q (.bl _)⟩
/-- -n -/
def mNeg (m : EM) : EM := fun en st => mb (m en st) fun d st => match d with | .int i => .ok (.int (-i)) st | _ => .bad
theorem pd_neg {Wx : WX} {pos : Pos} {a : Expr} {m : EM} (h : PD X Wx a m) : PD X Wx (.UnaryOp .USub a pos) (mNeg m) := ⟨PE.weak (pe_un un_neg h.pe) fun σ H Q ⟨W, en, e, ok, er, q⟩ => by
  subst e
  refine seqE ok er q fun d W1 v ok1 e1 er1 r1 q1 => ?_
  cases d with
  | int i => exact ⟨i, r1.int_inv, q1 W1 _ rfl ok1 (Ext.refl _) (.int _)⟩
  | _ => exact q1.elim⟩
end
end Pd

namespace Pd
open PySem PySem.Spec L2
open PyProof.Rows hiding St

/-! ## rows of data -/
def seqB (st : Sto) (d : D) : Option (List D) := match d with
  | .scr ns => some (ns.map .int)
  | d => match deref st d with | .lst ds => some ds | .tup ds => some ds | _ => none
section
variable {X : Cx} {k : Nat} {Wx : WX}
theorem seq_of {W : Wd} {d : D} {v : V} {ds : List D} (ok : WOk (cn X) W) (r : Rep (cn X) W d v) (h : seqB W.st d = some ds) : ∃ p xs, v = .ref p ∧ RepL (cn X) W ds xs ∧ (SqL X.K W.H p xs ∨ SqT X.K W.H p xs) := by
  cases d with
  | scr ns =>
    cases h
    unfold Rep at r
    obtain ⟨a, rfl, q⟩ := r
    exact ⟨a, _, rfl, RepL.of_ints ns, .inl q.sq⟩
  | lst es =>
    cases h
    obtain ⟨a, xs, rfl, q, z⟩ := r.lst_inv
    exact ⟨a, xs, rfl, z, .inl q.sq⟩
  | tup es =>
    cases h
    obtain ⟨a, xs, rfl, q, z⟩ := r.tup_inv
    exact ⟨a, xs, rfl, z, .inr q.sq⟩
  | cell n =>
    have h : (match deref W.st (.cell n) with | .lst ds => some ds | .tup ds => some ds | _ => none) = some ds := h
    rw [deref_cell] at h
    cases e : W.st[n]? with
    | none => rw [e] at h; cases h
    | some c =>
      cases c with
      | lst es =>
        rw [e] at h; cases h
        obtain ⟨a, xs, rfl, _, hH, z⟩ := cell_lst ok r e
        exact ⟨a, xs, rfl, z, .inl (SqL.of hH)⟩
      | dct ks es => rw [e] at h; cases h
      | dead => rw [e] at h; cases h
  | _ => cases h

/-! ## a[b] -/
def ixD (a b : D) (st : Sto) : Option D := match b with
  | .int i => (match a with
    | .str z => if small z.length = true then (L2.atI z.cps.toList i).map fun c => .str ⟨#[c]⟩ else none
    | a => (seqB st a).bind fun ds => L2.atI ds i)
  | _ => none
theorem atI_rep {C : Cn} {W : Wd} {ds : List D} {xs : List V} {i : Int} {d : D} (r : RepL C W ds xs) (h : L2.atI ds i = some d) : ∃ v, L2.atI xs i = some v ∧ Rep C W d v := by
  unfold L2.atI at h ⊢
  rw [← r.length]
  cases e : L2.ixN ds.length i with
  | none => rw [e] at h; cases h
  | some j =>
    rw [e] at h
    exact r.get h
theorem op_ixD : IxR X (rD2 (cn X) ixD) := by
  intro value slice pins s σ H x y v u Q I rx ry ⟨W, da, db, d, e, ok, ra, rb, hg, q⟩
  subst e
  unfold ixD at hg
  cases db with
  | int i =>
    have gen : ∀ {ds : List D}, seqB W.st da = some ds → L2.atI ds i = some d → subscripted slice false v u = operate [v, u] (getItem v u) → wpAny (model X.prog X.w) X.A (subscriptTail value slice v u) (EP X pins σ Q) X.xe s := by
      intro ds h1 h2
      obtain ⟨p, xs, rfl, z, hs⟩ := seq_of ok ra h1
      obtain ⟨w, h3, h4⟩ := atI_rep z h2
      rw [rb.int_inv] at ry
      rcases hs with hs | hs
      · exact ix_list value slice pins s σ _ _ _ v u Q I rx ry ⟨p, xs, i, w, rfl, rfl, hs, h3, q W w rfl ok (Ext.refl _) h4⟩
      · exact ix_tup value slice pins s σ _ _ _ v u Q I rx ry ⟨p, xs, i, w, rfl, rfl, hs, h3, q W w rfl ok (Ext.refl _) h4⟩
    cases da with
    | str z =>
      have hg : (if small z.length = true then (L2.atI z.cps.toList i).map fun c => D.str ⟨#[c]⟩ else none) = some d := hg
      by_cases c : small z.length = true
      · rw [if_pos c] at hg
        cases e1 : L2.atI z.cps.toList i with
        | none => rw [e1] at hg; cases hg
        | some c' =>
          rw [e1] at hg
          cases hg
          rw [ra.str_inv] at rx
          rw [rb.int_inv] at ry
          exact ix_str value slice pins s σ _ _ _ v u Q I rx ry ⟨z, i, c', rfl, rfl, small_iff.mp c, e1, q W _ rfl ok (Ext.refl _) (.str _)⟩
      · rw [if_neg c] at hg; cases hg
    | _ =>
      have hg : (seqB W.st _).bind (fun ds => L2.atI ds i) = some d := hg
      obtain ⟨ds, h1, h2⟩ := Option.bind_eq_some_iff.mp hg
      exact gen h1 h2
  | _ => cases hg
theorem pd_ix {a b : Expr} {ma mb' : EM} {pos : Pos} (ha : PD X Wx a ma) (hb : PD X Wx b mb') (hs : PlainIx b := by first | (intro _ _; rfl) | exact plainIx_const _) : PD X Wx (.Subscript a b pos) (mOp ixD ma mb') :=
  ⟨PE.weak (pe_ix op_ixD ha.pe hb.pe hs) fun _ _ _ h => tOp_of (fun _ _ _ _ q => q) h⟩

/-! ## a[b:c] -/
abbrev OM := En → Sto → Out (Option Int)
def PostO (C : Cn) (Wx : WX) (W : Wd) (σ : St) (Q : Option Int → Hp → Prop) : Out (Option Int) → Prop
  | .ok d st => ∀ W', W'.st = st → WOk C W' → Ext W W' → Q d W'.H
  | .err e st => ∀ W' cls dd, W'.st = st → WOk C W' → Ext W W' → ExR C W' e cls dd → Wx cls dd σ W'.H
  | .bad => False
theorem PostO.ext {C : Cn} {W W' : Wd} {σ : St} {Q : Option Int → Hp → Prop} {o : Out (Option Int)} (h : PostO C Wx W σ Q o) (e : Ext W W') : PostO C Wx W' σ Q o := by
  cases o with
  | ok d st => exact fun W2 h1 h2 h3 => h W2 h1 h2 (e.trans h3)
  | err x st => exact fun W2 c dd h1 h2 h3 => h W2 c dd h1 h2 (e.trans h3)
  | bad => exact h
def tDO (C : Cn) (Wx : WX) (m : OM) : TO := fun σ H Q => ∃ W en, W.H = H ∧ WOk C W ∧ EnvR C W σ en ∧ PostO C Wx W σ Q (m en W.st)
structure PDO (X : Cx) (Wx : WX) (e : Option Expr) (m : OM) : Prop where
  po : PO X e (tDO (cn X) Wx m)
theorem PO.weak {e : Option Expr} {t t' : TO} (h : PO X e t) (f : ∀ σ H Q, t' σ H Q → t σ H Q) : PO X e t' := ⟨fun pins s σ H Q I q => h.run pins s σ H Q I (f σ H Q q)⟩
def oNone : OM := fun _ st => .ok none st
def oSome (m : EM) : OM := fun en st => mb (m en st) fun d st => match d with | .int i => .ok (some i) st | _ => .bad
theorem pdo_none : PDO X Wx none oNone := ⟨PO.weak po_none fun σ H Q ⟨W, en, e, ok, er, q⟩ => by subst e; exact q W rfl ok (Ext.refl _)⟩
theorem seqO {C : Cn} {W : Wd} {σ : St} {en : En} {m : EM} {f : D → Sto → Out (Option Int)} {Q : Option Int → Hp → Prop} {R : VK} (ok : WOk C W) (er : EnvR C W σ en) (h : PostO C Wx W σ Q (mb (m en W.st) f))
    (hok : ∀ d W' v, WOk C W' → Ext W W' → EnvR C W' σ en → Rep C W' d v → PostO C Wx W' σ Q (f d W'.st) → R v W'.H) : tD C Wx m σ W.H R := by
  refine ⟨W, en, rfl, ok, er, ?_⟩
  cases e : m en W.st with
  | ok d st =>
    rw [e] at h
    exact fun W' v h1 h2 h3 h4 => hok d W' v h2 h3 (er.ext h3) h4 (by subst h1; exact PostO.ext h h3)
  | err x st => rw [e] at h; exact h
  | bad => rw [e] at h; exact h
theorem pdo_some {e : Expr} {m : EM} (h : PD X Wx e m) : PDO X Wx (some e) (oSome m) := ⟨PO.weak (po_some h.pe) fun σ H Q ⟨W, en, e, ok, er, q⟩ => by
  subst e
  refine seqO ok er q fun d W1 v ok1 e1 er1 r1 q1 => ?_
  cases d with
  | int i => rw [r1.int_inv]; exact ⟨i, rfl, q1 W1 rfl ok1 (Ext.refl _)⟩
  | _ => exact q1.elim⟩
def cutD (ds : List D) (lo hi : Option Int) : List D := (ds.drop (HT.sIx ds.length 0 lo)).take (HT.sIx ds.length ds.length hi - HT.sIx ds.length 0 lo)
theorem cut_rep {C : Cn} {W : Wd} {ds : List D} {xs : List V} (r : RepL C W ds xs) (lo hi : Option Int) : RepL C W (cutD ds lo hi) (L2.cutV xs lo hi) := by
  unfold cutD L2.cutV
  rw [← r.length]
  exact (r.drop _).take _
def slD (a : D) (lo hi : Option Int) (st : Sto) : Option D := match a with
  | .str z => if small z.length = true then some (.str (L2.cutS z lo hi)) else none
  | .tup ds => some (.tup (cutD ds lo hi))
  | .scr ns => some (.lst (cutD (ns.map .int) lo hi))
  | a => match deref st a with | .lst ds => some (.lst (cutD ds lo hi)) | _ => none
def rSlD (C : Cn) : V → Option Int → Option Int → Hp → VK → Prop := fun x lo hi H Q => ∃ W a d, W.H = H ∧ WOk C W ∧ Rep C W a x ∧ slD a lo hi W.st = some d ∧ ∀ W' v, W'.st = W.st → WOk C W' → Ext W W' → Rep C W' d v → Q v W'.H
theorem cut_whole {ds : List D} {lo hi : Option Int} (h : HT.sIx ds.length 0 lo = 0 ∧ HT.sIx ds.length ds.length hi = ds.length) : cutD ds lo hi = ds := by
  unfold cutD
  rw [h.1, h.2]
  simp
theorem sl_D : L2.SlR X (rSlD (cn X)) := by
  intro pins s σ H x v vl vu lo hi sl Q I rx hs pl pu ⟨W, a, d, e, ok, ra, hg, q⟩
  subst e
  have lists : ∀ {p : Addr} {xs : List V} {ds : List D}, x = .ref p → SqL X.K W.H p xs → RepL (cn X) W ds xs → d = .lst (cutD ds lo hi) → ∃ T id, typeLookup (.type T) "__getitem__" = pure (some (.builtin id)) ∧ s.TypeIs v T ∧ wpAny (model X.prog X.w) X.A (getItem v (.ref sl)) (EP X pins σ Q) X.xe s := by
    intro p xs ds hx hq hr hd
    subst hd
    exact sl_list pins s σ _ x v vl vu lo hi sl Q I rx hs pl pu ⟨p, xs, hx, hq, fun p' hp => q (W.lay p' _) _ rfl (lay_ok ok hp _) (lay_ext ok hp _) (lay_lst ok hp (cut_rep hr lo hi))⟩
  unfold slD at hg
  cases a with
  | str z =>
    have hg : (if small z.length = true then some (D.str (L2.cutS z lo hi)) else none) = some d := hg
    by_cases c : small z.length = true
    · rw [if_pos c] at hg
      cases hg
      rw [ra.str_inv] at rx
      exact sl_str pins s σ _ _ v vl vu lo hi sl Q I rx hs pl pu ⟨z, rfl, small_iff.mp c, q W _ rfl ok (Ext.refl _) (.str _)⟩
    · rw [if_neg c] at hg; cases hg
  | tup ds =>
    cases hg
    have ra0 := ra
    obtain ⟨a1, xs1, rfl, h1, q1⟩ := ra.tup_inv
    refine sl_tupA pins s σ _ _ v vl vu lo hi sl Q I rx hs pl pu ⟨a1, xs1, rfl, h1.sq, fun z => ?_, fun z p hp => ?_⟩
    · rw [← q1.length] at z
      rw [cut_whole z] at q
      exact q W _ rfl ok (Ext.refl _) ra0
    · exact q (W.lay p _) _ rfl (lay_ok ok hp _) (lay_ext ok hp _) (lay_tup ok hp (cut_rep q1 lo hi))
  | scr ns =>
    cases hg
    unfold Rep at ra
    obtain ⟨a1, rfl, h1⟩ := ra
    exact lists rfl h1.sq (RepL.of_ints ns) rfl
  | lst ds =>
    cases hg
    obtain ⟨a1, xs1, rfl, h1, q1⟩ := ra.lst_inv
    exact lists rfl h1.sq q1 rfl
  | cell n =>
    have h : (match deref W.st (.cell n) with | .lst ds => some (D.lst (cutD ds lo hi)) | _ => none) = some d := hg
    rw [deref_cell] at h
    cases e : W.st[n]? with
    | none => rw [e] at h; cases h
    | some c =>
      cases c with
      | lst es =>
        rw [e] at h; cases h
        obtain ⟨a, xs, rfl, _, hH, z⟩ := cell_lst ok ra e
        exact lists rfl (SqL.of hH) z rfl
      | dct ks es => rw [e] at h; cases h
      | dead => rw [e] at h; cases h
  | _ => cases hg
def mSl (m : EM) (ml mh : OM) : EM := fun en st => mb (m en st) fun d st => mb (ml en st) fun lo st => mb (mh en st) fun hi st => lift (slD d lo hi st) st
theorem seqOE {C : Cn} {W : Wd} {σ : St} {en : En} {m : OM} {f : Option Int → Sto → Out D} {Q : VK} {R : Option Int → Hp → Prop} (ok : WOk C W) (er : EnvR C W σ en) (h : PostE C Wx W σ Q (mb (m en W.st) f))
    (hok : ∀ d W', WOk C W' → Ext W W' → EnvR C W' σ en → PostE C Wx W' σ Q (f d W'.st) → R d W'.H) : tDO C Wx m σ W.H R := by
  refine ⟨W, en, rfl, ok, er, ?_⟩
  cases e : m en W.st with
  | ok d st =>
    rw [e] at h
    exact fun W' h1 h2 h3 => hok d W' h2 h3 (er.ext h3) (by subst h1; exact PostE.ext h h3)
  | err x st => rw [e] at h; exact h
  | bad => rw [e] at h; exact h
theorem pd_slice {e : Expr} {lo hi : Option Expr} {m : EM} {ml mh : OM} {p2 pos : Pos} (he : PD X Wx e m) (hl : PDO X Wx lo ml) (hh : PDO X Wx hi mh) : PD X Wx (.Subscript e (.Slice lo hi none p2) pos) (mSl m ml mh) :=
  ⟨PE.weak (pe_slice sl_D he.pe hl.po hh.po) fun σ H Q ⟨W, en, e, ok, er, q⟩ => by
    subst e
    refine seqE ok er q fun d W1 v ok1 e1 er1 r1 q1 => ?_
    refine seqOE ok1 er1 q1 fun l W2 ok2 e2 er2 q2 => ?_
    refine seqOE ok2 er2 q2 fun u W3 ok3 e3 er3 q3 => ?_
    cases e4 : slD d l u W3.st with
    | none => rw [e4] at q3; exact q3.elim
    | some d' => rw [e4] at q3; exact ⟨W3, d, d', rfl, ok3, (r1.ext e2).ext e3, e4, q3⟩⟩

/-! ## xs[::-1], lists -/
def revD (d : D) (st : Sto) : Option D := match d with
  | .scr ns => some (.lst (ns.map D.int).reverse)
  | d => match deref st d with | .lst ds => some (.lst ds.reverse) | _ => none
def mUn (g : D → Sto → Option D) (m : EM) : EM := fun en st => mb (m en st) fun d st => lift (g d st) st
theorem lists_of {W : Wd} {d : D} {v : V} {ds : List D} (ok : WOk (cn X) W) (r : Rep (cn X) W d v) (h : deref W.st d = .lst ds) : ∃ p xs, v = .ref p ∧ RepL (cn X) W ds xs ∧ W.H p = some (.lst xs) := by
  cases d with
  | lst es =>
    cases h
    obtain ⟨a, xs, rfl, q, z⟩ := r.lst_inv
    exact ⟨a, xs, rfl, z, q.1⟩
  | cell n =>
    rw [deref_cell] at h
    cases e : W.st[n]? with
    | none => rw [e] at h; cases h
    | some c =>
      cases c with
      | lst es =>
        rw [e] at h; cases h
        obtain ⟨a, xs, rfl, _, hH, z⟩ := cell_lst ok r e
        exact ⟨a, xs, rfl, z, hH⟩
      | dct ks es => rw [e] at h; cases h
      | dead => rw [e] at h; cases h
  | _ => cases h
theorem pd_revL {e : Expr} {m : EM} {k' : Nat} {p1 p2 p3 pos : Pos} (he : PD X Wx e m) : PD X Wx (.Subscript e (.Slice none none (some (.UnaryOp .USub (.Constant (.int 1) k' p1) p2)) p3) pos) (mUn revD m) :=
  ⟨PE.weak (pe_revL he.pe) fun σ H Q ⟨W, en, e, ok, er, q⟩ => by
    subst e
    refine seqE ok er q fun d W1 v ok1 e1 er1 r1 q1 => ?_
    cases e4 : revD d W1.st with
    | none => rw [e4] at q1; exact q1.elim
    | some d' =>
      rw [e4] at q1
      have fin : ∀ {ds : List D} {p : Addr} {xs : List V}, d' = .lst ds.reverse → SqL X.K W1.H p xs → RepL (cn X) W1 ds xs → v = .ref p → ∃ a xs, v = .ref a ∧ SqL X.K W1.H a xs ∧ ∀ p, W1.H p = none → Q (.ref p) (upd W1.H p (.lst xs.reverse)) := by
        intro ds p xs h1 h2 h3 h4
        subst h1
        exact ⟨p, xs, h4, h2, fun p' hp => q1 (W1.lay p' _) _ rfl (lay_ok ok1 hp _) (lay_ext ok1 hp _) (lay_lst ok1 hp h3.reverse)⟩
      unfold revD at e4
      cases d with
      | scr ns =>
        cases e4
        unfold Rep at r1
        obtain ⟨a, rfl, z⟩ := r1
        exact fin rfl z.sq (RepL.of_ints ns) rfl
      | lst ds =>
        cases e4
        obtain ⟨p, xs, rfl, z, hH⟩ := lists_of ok1 r1 rfl
        exact fin rfl (SqL.of hH) z rfl
      | cell n =>
        have e4 : (match deref W1.st (.cell n) with | .lst ds => some (D.lst ds.reverse) | _ => none) = some d' := e4
        cases e5 : deref W1.st (.cell n) with
        | lst ds =>
          rw [e5] at e4
          cases e4
          obtain ⟨p, xs, rfl, z, hH⟩ := lists_of ok1 r1 e5
          exact fin rfl (SqL.of hH) z rfl
        | _ => rw [e5] at e4; cases e4
      | _ => cases e4⟩

/-! ## calls of what is built in -/
abbrev GC := List D → Sto → Option (D × Sto)
def rDC (C : Cn) (g : GC) : List V → Hp → VK → Prop := fun xs H Q => ∃ W ds d st, W.H = H ∧ WOk C W ∧ RepL C W ds xs ∧ g ds W.st = some (d, st) ∧ ∀ W' v, W'.st = st → WOk C W' → Ext W W' → Rep C W' d v → Q v W'.H
def CallD (X : Cx) (f : Value) (g : GC) : Prop := CallR X f (rDC (cn X) g)
def lift2 (o : Option (D × Sto)) : Out D := match o with | some (d, st) => .ok d st | none => .bad
def mBlt (g : GC) (lm : LM) : EM := fun en st => mb (lm en st) fun ds st => lift2 (g ds st)
theorem tCB_of {g : GC} {lm : LM} {σ : St} {H : Hp} {Q : VK} (h : tD (cn X) Wx (mBlt g lm) σ H Q) : tCB (rDC (cn X) g) (tDL (cn X) Wx lm) σ H Q := by
  obtain ⟨W, en, e, ok, er, q⟩ := h
  subst e
  refine seqLE ok er q fun ds W1 vs ok1 e1 er1 r1 q1 => ?_
  cases e4 : g ds W1.st with
  | none => rw [e4] at q1; exact q1.elim
  | some z =>
    obtain ⟨d, st⟩ := z
    rw [e4] at q1
    exact ⟨W1, ds, d, st, rfl, ok1, r1, e4, q1⟩
theorem pd_blt {id : String} {x : Str} {g : GC} {e : Expr} {es : List Expr} {lm : LM} {p pos : Pos} (hc : CallD X (.builtin id) g) (ha : PDA X Wx (e :: es) lm) (hm : X.mg x = none) (hg : Gl X x := by rfl) (hv : bootBuiltins x = some (.builtin id) := by rfl) (hn : x ≠ "__name__" := by decide) (hdb : (x == ("__debug__" : Str)) = false := by decide)
    (he : starEach (e :: es) X.env = (false, eval e X.env) :: starEach es X.env := by rfl) (hpl : (backTo pos (starEach es X.env)).any (·.1) = false := by rfl) : PD X Wx (.Call (.Name x p) (e :: es) [] pos) (mBlt g lm) :=
  ⟨PE.weak (pe_callB hc hg hm hv ha.pa hn hdb he hpl) fun _ _ _ h => tCB_of h⟩
theorem pd_ty {T : String} {x : Str} {g : GC} {e : Expr} {es : List Expr} {lm : LM} {p pos : Pos} (hc : CallD X (.type T) g) (ha : PDA X Wx (e :: es) lm) (hm : X.mg x = none) (hg : Gl X x := by rfl) (hv : bootBuiltins x = some (.type T) := by rfl) (hn : x ≠ "__name__" := by decide) (hdb : (x == ("__debug__" : Str)) = false := by decide)
    (he : starEach (e :: es) X.env = (false, eval e X.env) :: starEach es X.env := by rfl) (hpl : (backTo pos (starEach es X.env)).any (·.1) = false := by rfl) : PD X Wx (.Call (.Name x p) (e :: es) [] pos) (mBlt g lm) :=
  ⟨PE.weak (pe_callTy hc hg hm hv ha.pa hn hdb he hpl) fun _ _ _ h => tCB_of h⟩
theorem RepL.one {C : Cn} {W : Wd} {d : D} {xs : List V} (r : RepL C W [d] xs) : ∃ v, xs = [v] ∧ Rep C W d v := by
  obtain ⟨v, t, rfl, h1, h2⟩ := r.cons_inv
  obtain rfl := h2.nil_inv
  exact ⟨v, rfl, h1⟩
theorem RepL.two {C : Cn} {W : Wd} {d e : D} {xs : List V} (r : RepL C W [d, e] xs) : ∃ v u, xs = [v, u] ∧ Rep C W d v ∧ Rep C W e u := by
  obtain ⟨v, t, rfl, h1, h2⟩ := r.cons_inv
  obtain ⟨u, rfl, h3⟩ := h2.one
  exact ⟨v, u, rfl, h1, h3⟩
/-- len -/
def lenB (d : D) (st : Sto) : Option Nat := match d with
  | .str z => if small z.length = true then some z.length else none
  | d => (seqB st d).map List.length
def lenG : GC := fun ds st => match ds with | [d] => (lenB d st).map fun n => (.int n, st) | _ => none
theorem call_lenD : CallD X (.builtin "len") lenG := by
  intro pins s σ H xs us Q I rv ⟨W, ds, d, st, e, ok, r, hg, q⟩
  subst e
  unfold lenG at hg
  split at hg
  · rename_i d0
    obtain ⟨v, rfl, r1⟩ := r.one
    cases e1 : lenB d0 W.st with
    | none => rw [e1] at hg; cases hg
    | some n =>
      rw [e1] at hg
      cases hg
      refine call_len pins s σ _ _ us Q I rv ⟨v, n, rfl, ?_, q W _ rfl ok (Ext.refl _) (.int _)⟩
      unfold lenB at e1
      cases d0 with
      | str z =>
        have e1 : (if small z.length = true then some z.length else none) = some n := e1
        by_cases c : small z.length = true
        · rw [if_pos c] at e1
          cases e1
          rw [r1.str_inv]
          exact ⟨small_iff.mp c, rfl⟩
        · rw [if_neg c] at e1; cases e1
      | _ =>
        obtain ⟨ds, h1, rfl⟩ := Option.map_eq_some_iff.mp e1
        obtain ⟨p, ys, rfl, z, hs⟩ := seq_of ok r1 h1
        rcases hs with hs | hs
        · exact .inl ⟨ys, hs, z.length⟩
        · exact .inr ⟨ys, hs, z.length⟩
  · cases hg
/-- list(row), to stay and to be changed -/
def listG : GC := fun ds st => match ds with | [d] => (seqB st d).map fun es => (.lst es, st) | _ => none
def listGC : GC := fun ds st => match ds with | [d] => (seqB st d).map fun es => (.cell st.length, st ++ [.lst es]) | _ => none
def tupG : GC := fun ds st => match ds with | [d] => (seqB st d).map fun es => (.tup es, st) | _ => none
theorem call_listD : CallD X (.type "list") listG := by
  intro pins s σ H xs us Q I rv ⟨W, ds, d, st, e, ok, r, hg, q⟩
  subst e
  unfold listG at hg
  split at hg
  · obtain ⟨v, rfl, r1⟩ := r.one
    obtain ⟨es, h1, h2⟩ := Option.map_eq_some_iff.mp hg
    cases h2
    obtain ⟨p, ys, rfl, z, hs⟩ := seq_of ok r1 h1
    exact call_list_of pins s σ _ _ us Q I rv ⟨p, ys, rfl, hs, fun l hp => q (W.lay l _) _ rfl (lay_ok ok hp _) (lay_ext ok hp _) (lay_lst ok hp z)⟩
  · cases hg
theorem call_listDC : CallD X (.type "list") listGC := by
  intro pins s σ H xs us Q I rv ⟨W, ds, d, st, e, ok, r, hg, q⟩
  subst e
  unfold listGC at hg
  split at hg
  · obtain ⟨v, rfl, r1⟩ := r.one
    obtain ⟨es, h1, h2⟩ := Option.map_eq_some_iff.mp hg
    cases h2
    obtain ⟨p, ys, rfl, z, hs⟩ := seq_of ok r1 h1
    exact call_list_of pins s σ _ _ us Q I rv ⟨p, ys, rfl, hs, fun l hp => q (W.cel l (.lst ys) (.lst es)) _ rfl (cel_lst_ok ok hp z) (cel_ext ok hp _ _) (cel_rep ok)⟩
  · cases hg
theorem call_tupD : CallD X (.type "tuple") tupG := by
  intro pins s σ H xs us Q I rv ⟨W, ds, d, st, e, ok, r, hg, q⟩
  subst e
  unfold tupG at hg
  split at hg
  · rename_i d0
    obtain ⟨v, rfl, r1⟩ := r.one
    obtain ⟨es, h1, h2⟩ := Option.map_eq_some_iff.mp hg
    cases h2
    cases d0 with
    | tup es' =>
      cases h1
      have r0 := r1
      obtain ⟨a1, xs1, rfl, h1, q1⟩ := r1.tup_inv
      exact call_tuple_of pins s σ _ _ us Q I rv ⟨a1, xs1, rfl, .inr ⟨h1.sq, q W _ rfl ok (Ext.refl _) r0⟩⟩
    | scr ns =>
      cases h1
      unfold Rep at r1
      obtain ⟨a, rfl, z⟩ := r1
      exact call_tuple_of pins s σ _ _ us Q I rv ⟨a, _, rfl, .inl ⟨z.sq, fun l hp => q (W.lay l _) _ rfl (lay_ok ok hp _) (lay_ext ok hp _) (lay_tup ok hp (RepL.of_ints ns))⟩⟩
    | lst es' =>
      cases h1
      obtain ⟨p, ys, rfl, z, hs⟩ := lists_of ok r1 rfl
      exact call_tuple_of pins s σ _ _ us Q I rv ⟨p, ys, rfl, .inl ⟨SqL.of hs, fun l hp => q (W.lay l _) _ rfl (lay_ok ok hp _) (lay_ext ok hp _) (lay_tup ok hp z)⟩⟩
    | cell n =>
      have e4 : (match deref W.st (.cell n) with | .lst ds => some ds | .tup ds => some ds | _ => none) = some es := h1
      cases e5 : deref W.st (.cell n) with
      | lst ds =>
        rw [e5] at e4
        cases e4
        obtain ⟨p, ys, rfl, z, hs⟩ := lists_of ok r1 e5
        exact call_tuple_of pins s σ _ _ us Q I rv ⟨p, ys, rfl, .inl ⟨SqL.of hs, fun l hp => q (W.lay l _) _ rfl (lay_ok ok hp _) (lay_ext ok hp _) (lay_tup ok hp z)⟩⟩
      | tup ds =>
        rw [deref_cell] at e5
        cases e6 : W.st[n]? with
        | none => rw [e6] at e5; cases e5
        | some c => cases c <;> (rw [e6] at e5; cases e5)
      | _ => rw [e5] at e4; cases e4
    | _ => cases h1
  · cases hg
/-- int(number or truth) -/
def intG : GC := fun ds st => match ds with | [.int i] => some (.int i, st) | [.bl b] => some (.int (if b = true then 1 else 0), st) | _ => none
theorem call_intD : CallD X (.type "int") intG := by
  intro pins s σ H xs us Q I rv ⟨W, ds, d, st, e, ok, r, hg, q⟩
  subst e
  unfold intG at hg
  split at hg
  · obtain ⟨v, rfl, r1⟩ := r.one
    cases hg
    exact call_int1 pins s σ _ _ us Q I rv (.inl ⟨_, by rw [r1.int_inv], q W _ rfl ok (Ext.refl _) (.int _)⟩)
  · obtain ⟨v, rfl, r1⟩ := r.one
    cases hg
    exact call_int1 pins s σ _ _ us Q I rv (.inr ⟨_, by rw [r1.bl_inv], q W _ rfl ok (Ext.refl _) (.int _)⟩)
  · cases hg
/-- str(number), str(text) -/
def strG : GC := fun ds st => match ds with | [.int i] => if i.natAbs.log2 < 1920 then some (.str (toString i), st) else none | [.str x] => some (.str x, st) | [.bl b] => some (.str (if b then "True" else "False"), st) | _ => none
theorem call_strD : CallD X (.type "str") strG := by
  intro pins s σ H xs us Q I rv ⟨W, ds, d, st, e, ok, r, hg, q⟩
  subst e
  unfold strG at hg
  split at hg
  · rename_i i
    obtain ⟨v, rfl, r1⟩ := r.one
    by_cases c : i.natAbs.log2 < 1920
    · rw [if_pos c] at hg
      cases hg
      exact call_str_int pins s σ _ _ us Q I rv ⟨_, by rw [r1.int_inv], c, q W _ rfl ok (Ext.refl _) (.str _)⟩
    · rw [if_neg c] at hg; cases hg
  · obtain ⟨v, rfl, r1⟩ := r.one
    cases hg
    exact SkE.call_str_str pins s σ _ _ us Q I rv ⟨_, by rw [r1.str_inv], q W _ rfl ok (Ext.refl _) (.str _)⟩
  · obtain ⟨v, rfl, r1⟩ := r.one
    cases hg
    obtain ⟨u, rfl, ru⟩ := rv.one
    rw [r1.bl_inv] at ru
    cases ru
    exact PySem.P.str_of_bool ⟨.str _, W.H, I.tok _, ⟨_, rfl⟩, q W _ rfl ok (Ext.refl _) (.str _)⟩
  · cases hg
def intsD : List D → Option (List Int)
  | [] => some []
  | .int i :: r => (intsD r).map (i :: ·)
  | _ => none
theorem intsD_eq : ∀ {ds : List D} {ns : List Int}, intsD ds = some ns → ds = ns.map .int
  | [], _, h => by cases h; rfl
  | .int i :: r, _, h => by
    obtain ⟨ns, h1, rfl⟩ := Option.map_eq_some_iff.mp (show (intsD r).map (i :: ·) = some _ from h)
    rw [List.map_cons, ← intsD_eq h1]
  | .non :: _, _, h => by cases h
  | .bl _ :: _, _, h => by cases h
  | .str _ :: _, _, h => by cases h
  | .tup _ :: _, _, h => by cases h
  | .lst _ :: _, _, h => by cases h
  | .dct _ _ :: _, _, h => by cases h
  | .cell _ :: _, _, h => by cases h
  | .glob _ :: _, _, h => by cases h
  | .scr _ :: _, _, h => by cases h
def lstB (st : Sto) (d : D) : Option (List D) := match deref st d with | .lst ds => some ds | _ => none
theorem lstB_eq {st : Sto} {d : D} {ds : List D} (h : lstB st d = some ds) : deref st d = .lst ds := by
  unfold lstB at h
  split at h
  · rename_i e; cases h; exact e
  · cases h
def sumG : GC := fun ds st => match ds with | [d] => ((lstB st d).bind intsD).map fun ns => (.int ns.sum, st) | _ => none
theorem call_sumD (hc : X.calm = true) : CallD X (.builtin "sum") sumG := by
  intro pins s σ H xs us Q I rv ⟨W, ds, d, st, e, ok, r, hg, q⟩
  subst e
  unfold sumG at hg
  split at hg
  · obtain ⟨v, rfl, r1⟩ := r.one
    obtain ⟨ns, h1, h2⟩ := Option.map_eq_some_iff.mp hg
    obtain ⟨es, h3, h4⟩ := Option.bind_eq_some_iff.mp h1
    cases h2
    obtain ⟨p, ys, rfl, z, hs⟩ := lists_of ok r1 (lstB_eq h3)
    rw [intsD_eq h4] at z
    rw [z.ints] at hs
    exact cr_sum hc pins s σ _ _ us Q I rv ⟨p, ns, rfl, SqL.of hs, q W _ rfl ok (Ext.refl _) (.int _)⟩
  · cases hg
/-- min, max of two numbers -/
def minG : GC := fun ds st => match ds with | [.int i, .int j] => some (.int (if j < i then j else i), st) | _ => none
def maxG : GC := fun ds st => match ds with | [.int i, .int j] => some (.int (if j > i then j else i), st) | _ => none
theorem call_minD (hc : X.calm = true) : CallD X (.builtin "min") minG := by
  intro pins s σ H xs us Q I rv ⟨W, ds, d, st, e, ok, r, hg, q⟩
  subst e
  unfold minG at hg
  split at hg
  · obtain ⟨v, u, rfl, r1, r2⟩ := r.two
    cases hg
    rw [r1.int_inv, r2.int_inv] at rv
    exact call_min2 hc pins s σ _ _ us Q I rv ⟨_, _, rfl, q W _ rfl ok (Ext.refl _) (.int _)⟩
  · cases hg
theorem call_maxD (hc : X.calm = true) : CallD X (.builtin "max") maxG := by
  intro pins s σ H xs us Q I rv ⟨W, ds, d, st, e, ok, r, hg, q⟩
  subst e
  unfold maxG at hg
  split at hg
  · obtain ⟨v, u, rfl, r1, r2⟩ := r.two
    cases hg
    rw [r1.int_inv, r2.int_inv] at rv
    exact call_max2 hc pins s σ _ _ us Q I rv ⟨_, _, rfl, q W _ rfl ok (Ext.refl _) (.int _)⟩
  · cases hg

/-! ## isinstance -/
def tyN (st : Sto) : D → Option String
  | .non => some "NoneType" | .bl _ => some "bool" | .int _ => some "int" | .str _ => some "str" | .tup _ => some "tuple" | .lst _ => some "list" | .dct _ _ => some "dict" | .scr _ => some "list" | .glob _ => none
  | .cell n => match st[n]? with | some (.lst _) => some "list" | some (.dct _ _) => some "dict" | _ => none
theorem tyN_of {W : Wd} {d : D} {v : V} {T : String} (ok : WOk (cn X) W) (r : Rep (cn X) W d v) (h : tyN W.st d = some T) : TyX X.K W.H v (.type T) := by
  cases d with
  | non => cases h; rw [r.non_inv]; exact .base .non
  | bl b => cases h; rw [r.bl_inv]; exact .base (.bl b)
  | int b => cases h; rw [r.int_inv]; exact .base (.int b)
  | str b => cases h; rw [r.str_inv]; exact .base (.str b)
  | tup ds =>
    cases h
    obtain ⟨a, xs, rfl, q, z⟩ := r.tup_inv
    rcases q with ⟨q, _⟩ | ⟨o, its, n, h1, h2, _⟩
    · rcases q with q | ⟨o, q⟩
      · exact .base (.tup q)
      · exact .fTuple q
    · exact .kTuple h1 h2
  | lst ds =>
    cases h
    obtain ⟨a, xs, rfl, q, z⟩ := r.lst_inv
    exact .base (.lst q.1)
  | dct ks ds =>
    cases h
    unfold Rep at r
    obtain ⟨a, xs, rfl, q, _⟩ := r
    exact .base (.dK q)
  | scr ns =>
    cases h
    unfold Rep at r
    obtain ⟨a, rfl, q⟩ := r
    rcases q with ⟨q, _⟩ | ⟨o, its, n, h1, h2, _⟩
    · rcases q with q | ⟨o, q⟩
      · exact .base (.lst q)
      · exact .base (.frz q)
    · exact .kList h1 h2
  | glob x => cases h
  | cell n =>
    have h : (match W.st[n]? with | some (.lst _) => some "list" | some (.dct _ _) => some "dict" | _ => none) = some T := h
    cases e : W.st[n]? with
    | none => rw [e] at h; cases h
    | some c =>
      cases c with
      | lst es =>
        rw [e] at h; cases h
        obtain ⟨a, xs, rfl, _, hH, z⟩ := cell_lst ok r e
        exact .base (.lst hH)
      | dct ks es =>
        rw [e] at h; cases h
        obtain ⟨a, xs, rfl, _, hH, z⟩ := cell_dct ok r e
        exact .base (.dK hH)
      | dead => rw [e] at h; cases h
def isiB (T : String) (d : D) (st : Sto) : Option D := (tyN st d).bind fun t => (kitB t T).map .bl
theorem pd_isi {T : String} {x : Str} {e : Expr} {m : EM} {p p2 pos : Pos} (he : PD X Wx e m) (hm : X.mg "isinstance" = none) (hm2 : X.mg x = none) (hg : Gl X "isinstance" := by rfl) (hg2 : Gl X x := by rfl) (hv : bootBuiltins x = some (.type T) := by rfl) (hn : x ≠ "__name__" := by decide) (hdb : (x == ("__debug__" : Str)) = false := by decide)
    (hs : starEach [e, .Name x p2] X.env = (false, eval e X.env) :: starEach [.Name x p2] X.env := by rfl) (hs2 : starEach [.Name x p2] X.env = (false, eval (.Name x p2) X.env) :: starEach [] X.env := by rfl) (hpl : (backTo pos (starEach [.Name x p2] X.env)).any (·.1) = false := by rfl) :
    PD X Wx (.Call (.Name "isinstance" p) [e, .Name x p2] [] pos) (mUn (isiB T) m) :=
  ⟨PE.weak (pe_callB call_isi hg hm rfl (pa_cons he.pe (pa_cons (pe_bltn (v := .ty T) hg2 hm2 hv rfl hn hdb) pa_nil hs2) hs) (by decide) (by decide) hs hpl) fun σ H Q ⟨W, en, e, ok, er, q⟩ => by
    subst e
    refine seqE ok er q fun d W1 v ok1 e1 er1 r1 q1 => ?_
    cases e4 : isiB T d W1.st with
    | none => rw [e4] at q1; exact q1.elim
    | some d' =>
      rw [e4] at q1
      unfold isiB at e4
      obtain ⟨t, h1, h2⟩ := Option.bind_eq_some_iff.mp e4
      obtain ⟨b, h3, rfl⟩ := Option.map_eq_some_iff.mp h2
      exact ⟨v, .ty T, _, _, b, rfl, .ty T, tyN_of ok1 r1 h1, kit_ty h3, q1 W1 _ rfl ok1 (Ext.refl _) (.bl b)⟩⟩

/-! ## methods -/
abbrev GM2 := D → List D → Sto → Option (D × Sto)
def rDM (C : Cn) (g : GM2) : V → List V → Hp → VK → Prop := fun x xs H Q => ∃ W o ds d st, W.H = H ∧ WOk C W ∧ Rep C W o x ∧ RepL C W ds xs ∧ g o ds W.st = some (d, st) ∧ ∀ W' v, W'.st = st → WOk C W' → Ext W W' → Rep C W' d v → Q v W'.H
def MtD (X : Cx) (id : String) (g : GM2) : Prop := MtR X id (rDM (cn X) g)
/-- the receiver is of the kind -/
def tyM (T : String) (st : Sto) (d : D) : Bool := match d with
  | .str _ => decide (T = "str")
  | .int _ => decide (T = "int")
  | .lst _ => decide (T = "list")
  | .dct _ _ => decide (T = "dict")
  | .cell n => match st[n]? with | some (.lst _) => decide (T = "list") | some (.dct _ _) => decide (T = "dict") | _ => false
  | _ => false
theorem tyM_of {W : Wd} {d : D} {v : V} {T : String} (ok : WOk (cn X) W) (r : Rep (cn X) W d v) (h : tyM T W.st d = true) : tyV X.K T v W.H := by
  cases d with
  | str b => rw [r.str_inv]; exact (of_decide_eq_true h : T = "str")
  | int b => rw [r.int_inv]; exact (of_decide_eq_true h : T = "int")
  | lst ds =>
    obtain ⟨a, xs, rfl, q, z⟩ := r.lst_inv
    exact .inl ⟨of_decide_eq_true h, xs, SqL.of q.1⟩
  | dct ks ds =>
    unfold Rep at r
    obtain ⟨a, xs, rfl, q, _⟩ := r
    exact .inr (.inr (.inl ⟨of_decide_eq_true h, .inl ⟨_, q⟩⟩))
  | cell n =>
    have h : (match W.st[n]? with | some (.lst _) => decide (T = "list") | some (.dct _ _) => decide (T = "dict") | _ => false) = true := h
    cases e : W.st[n]? with
    | none => rw [e] at h; cases h
    | some c =>
      cases c with
      | lst es =>
        rw [e] at h
        obtain ⟨a, xs, rfl, _, hH, z⟩ := cell_lst ok r e
        exact .inl ⟨of_decide_eq_true h, xs, SqL.of hH⟩
      | dct ks es =>
        rw [e] at h
        obtain ⟨a, xs, rfl, _, hH, z⟩ := cell_dct ok r e
        exact .inr (.inr (.inl ⟨of_decide_eq_true h, .inl ⟨_, hH⟩⟩))
      | dead => rw [e] at h; cases h
  | _ => cases h
def mMt (T : String) (g : GM2) (mo : EM) (lm : LM) : EM := fun en st => mb (mo en st) fun o st => if tyM T st o = true then mb (lm en st) fun ds st => lift2 (g o ds st) else .bad
theorem pd_mt {T id : String} {name : Str} {g : GM2} {o e : Expr} {es : List Expr} {mo : EM} {lm : LM} {apos cpos : Pos} (hm : MtD X id g) (pa : PlainAttrs T) (slot : Slot T name id) (hty : typeOf (.builtin id) = pure (.type "method_descriptor")) (ho : PD X Wx o mo) (ha : PDA X Wx (e :: es) lm)
    (hbase : attributeBase o name X.env (eval o X.env) = eval o X.env := by rfl)
    (hsh : ((backTo cpos (starEach (e :: es) X.env)).all (fun x => !x.1) && (backToKw cpos (keywordEach [] X.env)).all (fun x => x.1.isSome)
      && decide ((e :: es).length + ([] : List Keyword).length + (if ([] : List Keyword).isEmpty then 0 else 1) < 30)) = true := by rfl)
    (hline : (apos.endLine == cpos.line) = true := by rfl) (hs : starEach (e :: es) X.env = (false, eval e X.env) :: starEach es X.env := by rfl) (hplain : (backTo cpos (starEach es X.env)).any (·.1) = false := by rfl) :
    PD X Wx (.Call (.Attribute o name apos) (e :: es) [] cpos) (mMt T g mo lm) :=
  ⟨PE.weak (pe_bm pa slot hty hm ho.pe ha.pa hbase hsh hline hs hplain) fun σ H Q ⟨W, en, e, ok, er, q⟩ => by
    subst e
    refine seqE ok er q fun d W1 v ok1 e1 er1 r1 q1 => ?_
    by_cases c : tyM T W1.st d = true
    · rw [if_pos c] at q1
      refine ⟨tyM_of ok1 r1 c, ?_⟩
      refine seqLE ok1 er1 q1 fun ds W2 vs ok2 e2 er2 r2 q2 => ?_
      cases e4 : g d ds W2.st with
      | none => rw [e4] at q2; exact q2.elim
      | some z =>
        obtain ⟨d', st⟩ := z
        rw [e4] at q2
        exact ⟨W2, d, ds, d', st, rfl, ok2, r1.ext e2, r2, e4, q2⟩
    · rw [if_neg c] at q1; exact q1.elim⟩
theorem pd_mt0 {T id : String} {name : Str} {g : GM2} {o : Expr} {mo : EM} {apos cpos : Pos} (hm : MtD X id g) (pa : PlainAttrs T) (slot : Slot T name id) (hty : typeOf (.builtin id) = pure (.type "method_descriptor")) (ho : PD X Wx o mo)
    (hbase : attributeBase o name X.env (eval o X.env) = eval o X.env := by rfl) (hline : (apos.endLine == cpos.line) = true := by rfl) : PD X Wx (.Call (.Attribute o name apos) [] [] cpos) (mMt T g mo lNil) :=
  ⟨PE.weak (pe_bm0 pa slot hty hm ho.pe hbase hline) fun σ H Q ⟨W, en, e, ok, er, q⟩ => by
    subst e
    refine seqE ok er q fun d W1 v ok1 e1 er1 r1 q1 => ?_
    by_cases c : tyM T W1.st d = true
    · rw [if_pos c] at q1
      refine ⟨tyM_of ok1 r1 c, ?_⟩
      have q1 : PostE (cn X) Wx W1 σ Q (lift2 (g d [] W1.st)) := q1
      cases e4 : g d [] W1.st with
      | none => rw [e4] at q1; exact q1.elim
      | some z =>
        obtain ⟨d', st⟩ := z
        rw [e4] at q1
        exact ⟨W1, d, [], d', st, rfl, ok1, r1, RepL.nil, e4, q1⟩
    · rw [if_neg c] at q1; exact q1.elim⟩
def appendG : GM2 := fun o ds st => match o, ds with
  | .cell n, [d] => (match st[n]? with | some (.lst es) => if es.length < sizeLine then some (.non, st.set n (.lst (es ++ [d]))) else none | _ => none)
  | _, _ => none
theorem mt_appendD : MtD X "list.append" appendG := by
  intro pins s σ H x xs v us Q I rx rv ⟨W, o, ds, d, st, e, ok, ro, rd, hg, q⟩
  subst e
  unfold appendG at hg
  split at hg
  · rename_i n d0
    obtain ⟨y, rfl, r1⟩ := rd.one
    split at hg
    · rename_i es e1
      by_cases c : es.length < sizeLine
      · rw [if_pos c] at hg
        cases hg
        obtain ⟨a, ys, rfl, ha, hH, z⟩ := cell_lst ok ro e1
        exact mt_append pins s σ _ _ _ v us Q I rx rv ⟨a, ys, y, rfl, rfl, hH, by rw [← z.length]; exact c, q (W.put n a (.lst (ys ++ [y])) (.lst (es ++ [d0]))) .non rfl (put_lst_ok ok ha e1 (by intro h; cases h) (z.append (.cons r1 .nil))) (put_ext ok ha e1 (by intro h; cases h) _ _) .non⟩
      · rw [if_neg c] at hg; cases hg
    · cases hg
  · cases hg
def popG : GM2 := fun o ds st => match o, ds with
  | .cell n, [] => (match st[n]? with | some (.lst es) => (es[es.length - 1]?).map fun d => (d, st.set n (.lst es.dropLast)) | _ => none)
  | _, _ => none
theorem mt_popD : MtD X "list.pop" popG := by
  intro pins s σ H x xs v us Q I rx rv ⟨W, o, ds, d, st, e, ok, ro, rd, hg, q⟩
  subst e
  unfold popG at hg
  split at hg
  · rename_i n
    obtain rfl := rd.nil_inv
    split at hg
    · rename_i es e1
      obtain ⟨d0, h1, h2⟩ := Option.map_eq_some_iff.mp hg
      cases h2
      obtain ⟨a, ys, rfl, ha, hH, z⟩ := cell_lst ok ro e1
      rw [z.length] at h1
      obtain ⟨y, h3, h4⟩ := z.get h1
      have ee := put_ext ok ha e1 (by intro h; cases h) (.lst ys.dropLast) (.lst es.dropLast)
      exact mt_pop pins s σ _ _ _ v us Q I rx rv ⟨a, ys, y, rfl, rfl, hH, h3, q (W.put n a (.lst ys.dropLast) (.lst es.dropLast)) y rfl (put_lst_ok ok ha e1 (by intro h; cases h) z.dropLast) ee (h4.ext ee)⟩
    · cases hg
  · cases hg
def strsD : List D → Option (List Str)
  | [] => some []
  | .str i :: r => (strsD r).map (i :: ·)
  | _ => none
theorem strsD_eq : ∀ {ds : List D} {ns : List Str}, strsD ds = some ns → ds = ns.map .str
  | [], _, h => by cases h; rfl
  | .str i :: r, _, h => by
    obtain ⟨ns, h1, rfl⟩ := Option.map_eq_some_iff.mp (show (strsD r).map (i :: ·) = some _ from h)
    rw [List.map_cons, ← strsD_eq h1]
  | .non :: _, _, h => by cases h
  | .bl _ :: _, _, h => by cases h
  | .int _ :: _, _, h => by cases h
  | .tup _ :: _, _, h => by cases h
  | .lst _ :: _, _, h => by cases h
  | .dct _ _ :: _, _, h => by cases h
  | .cell _ :: _, _, h => by cases h
  | .glob _ :: _, _, h => by cases h
  | .scr _ :: _, _, h => by cases h
def joinG : GM2 := fun o ds st => match o, ds with
  | .str a, [d] => ((seqB st d).bind strsD).bind fun ys => if (ys.map (·.length)).sum + ys.length * a.length ≤ 16777216 then some (.str (Txt.join a ys), st) else none
  | _, _ => none
theorem mt_joinD : MtD X "str.join" joinG := by
  intro pins s σ H x xs v us Q I rx rv ⟨W, o, ds, d, st, e, ok, ro, rd, hg, q⟩
  subst e
  unfold joinG at hg
  split at hg
  · rename_i a d0
    obtain ⟨y, rfl, r1⟩ := rd.one
    obtain ⟨ys, h1, h2⟩ := Option.bind_eq_some_iff.mp hg
    obtain ⟨es, h3, h4⟩ := Option.bind_eq_some_iff.mp h1
    by_cases c : (ys.map (·.length)).sum + ys.length * a.length ≤ 16777216
    · rw [if_pos c] at h2
      cases h2
      obtain ⟨p, zs, rfl, z, hs⟩ := seq_of ok r1 h3
      rw [strsD_eq h4] at z
      rw [z.strs] at hs
      exact mt_join pins s σ _ _ _ v us Q I rx rv ⟨a, p, ys, ro.str_inv, rfl, hs, c, q W _ rfl ok (Ext.refl _) (.str _)⟩
    · rw [if_neg c] at h2; cases h2
  · cases hg
def splitG : GM2 := fun o ds st => match o, ds with
  | .str a, [.str b] => if (b.length == 0) = false ∧ a.length + 2 ≤ sizeLine then some (.lst ((Txt.split a b).map .str), st) else none
  | _, _ => none
theorem mt_splitD : MtD X "str.split" splitG := by
  intro pins s σ H x xs v us Q I rx rv ⟨W, o, ds, d, st, e, ok, ro, rd, hg, q⟩
  subst e
  unfold splitG at hg
  split at hg
  · rename_i a b
    obtain ⟨y, rfl, r1⟩ := rd.one
    by_cases c : (b.length == 0) = false ∧ a.length + 2 ≤ sizeLine
    · rw [if_pos c] at hg
      cases hg
      exact mt_split pins s σ _ _ _ v us Q I rx rv ⟨a, b, ro.str_inv, by rw [r1.str_inv], c.1, c.2, fun p hp => q (W.lay p _) _ rfl (lay_ok ok hp _) (lay_ext ok hp _) (lay_lst ok hp (RepL.of_strs _))⟩
    · rw [if_neg c] at hg; cases hg
  · cases hg
def upperG : GM2 := fun o ds st => match o, ds with
  | .str a, [] => if a.length ≤ 5592405 then some (.str (Txt.upper a), st) else none
  | _, _ => none
theorem mt_upperD : MtD X "str.upper" upperG := by
  intro pins s σ H x xs v us Q I rx rv ⟨W, o, ds, d, st, e, ok, ro, rd, hg, q⟩
  subst e
  unfold upperG at hg
  split at hg
  · rename_i a
    by_cases c : a.length ≤ 5592405
    · rw [if_pos c] at hg
      cases hg
      exact mt_upper pins s σ _ _ _ v us Q I rx rv ⟨a, ro.str_inv, rd.nil_inv, c, q W _ rfl ok (Ext.refl _) (.str _)⟩
    · rw [if_neg c] at hg; cases hg
  · cases hg
def countG : GM2 := fun o ds st => match o, ds with
  | .str a, [.str b] => some (.int (Txt.count a b), st)
  | _, _ => none
theorem mt_countD : MtD X "str.count" countG := by
  intro pins s σ H x xs v us Q I rx rv ⟨W, o, ds, d, st, e, ok, ro, rd, hg, q⟩
  subst e
  unfold countG at hg
  split at hg
  · rename_i a b
    obtain ⟨y, rfl, r1⟩ := rd.one
    cases hg
    exact mt_count pins s σ _ _ _ v us Q I rx rv ⟨a, b, ro.str_inv, by rw [r1.str_inv], q W _ rfl ok (Ext.refl _) (.int _)⟩
  · cases hg
end
end Pd

namespace Pd
open PySem PySem.Spec L2
open PyProof.Rows hiding St
/-! ## repr -/
def reprB (d : D) : Option Str := if pur d = true ∧ (py d).showable = true ∧ (py d).shown.length ≤ sizeLine ∧ (py d).depth ≤ 150 then some (py d).shown else none
def frz (st : Sto) : D → D
  | .cell n => match st[n]? with | some (.lst ds) => .lst ds | some (.dct ks ds) => .dct ks ds | _ => .cell n
  | d => d
section
variable {X : Cx} {k : Nat} {Wx : WX} {pins : List (Addr × Obj)} {σ : St} {W : Wd} {s : Shared}
/-- of an object, by what it holds -/
theorem shows_tup (I : Inv X pins σ W.H s) {ds : List D} {a : Addr} {xs : List V} (as0 : List Addr) (rd : Reads s.heap (.ref a) (py (.tup ds)) as0) (ht : SqT X.K W.H a xs) (hr : RepL (cn X) W ds xs) (p : purL ds = true) (hs : (py (.tup ds)).showable = true) (hz : (py (.tup ds)).shown.length ≤ sizeLine)
    {A : Around} {E : Value → Shared → Prop} {Q : Value → Shared → Prop} (hg : A.guards = some []) (hu : A.units + ((py (.tup ds)).depth + 1) < cLine)
    (hQ : ∀ h' u tk, (∀ b o, s.heap.get? b = some o → h'.get? b = some o) → Q (.str (py (.tup ds)).shown u) { s with heap := h', toks := tk }) : wpAny (model X.prog X.w) A (call (.builtin "repr") [.ref a]) Q E s := by
  obtain ⟨its, rv, ⟨o, ho, hc, n, hd⟩, _⟩ := I.tuple ht
  simp only [py, PyData.shown] at hz hQ
  simp only [py, PyData.showable] at hs
  simp only [py, PyData.depth] at hu
  obtain ⟨bs, hb, hk⟩ := RepL.shows I hr p rv hs fun t z => Nat.le_trans (tupleText_mem_le z) hz
  have out : a ∉ bs := not_mem_of_deeper rd (by simp only [py, PyData.depth]; omega) hb
  exact call_repr_slot (by omega) ⟨o, ho, hc⟩ F.slot_tuple_repr (call_tuple_reprK ho hc hd out (by simpa using hk) hg (fun b _ => Clear.nil b) (by show A.units + 1 + _ < cLine; omega) (fun _ _ e => e) (fun h' u tk hk => ⟨_, _, rfl, hQ h' u tk hk⟩) hz)
theorem shows_lst (I : Inv X pins σ W.H s) {ds : List D} {a : Addr} {xs : List V} (as0 : List Addr) (rd : Reads s.heap (.ref a) (py (.lst ds)) as0) (ht : SqL X.K W.H a xs) (hr : RepL (cn X) W ds xs) (p : purL ds = true) (hs : (py (.lst ds)).showable = true) (hz : (py (.lst ds)).shown.length ≤ sizeLine)
    {A : Around} {E : Value → Shared → Prop} {Q : Value → Shared → Prop} (hg : A.guards = some []) (hu : A.units + ((py (.lst ds)).depth + 1) < cLine)
    (hQ : ∀ h' u tk, (∀ b o, s.heap.get? b = some o → h'.get? b = some o) → Q (.str (py (.lst ds)).shown u) { s with heap := h', toks := tk }) : wpAny (model X.prog X.w) A (call (.builtin "repr") [.ref a]) Q E s := by
  obtain ⟨its, rv, ⟨o, n, ho, hc, _, hd⟩, _⟩ := I.list ht
  simp only [py, PyData.shown] at hz hQ
  simp only [py, PyData.showable] at hs
  simp only [py, PyData.depth] at hu
  obtain ⟨bs, hb, hk⟩ := RepL.shows I hr p rv hs fun t z => Nat.le_trans (listText_mem_le z) hz
  have out : a ∉ bs := not_mem_of_deeper rd (by simp only [py, PyData.depth]; omega) hb
  refine call_repr_slot (by omega) ⟨o, ho, hc⟩ F.slot_list_repr.toG ?_
  cases its with
  | nil =>
    cases rv
    obtain rfl : ds = [] := List.eq_nil_of_length_eq_zero hr.length
    simp only [pyL, PyData.shownAll, listText_nil] at hQ
    exact call_list_repr_empty ⟨o, ho, hc⟩ ho hd ⟨_, _, rfl, hQ s.heap _ _ fun _ _ e => e⟩
  | cons x l =>
    exact call_list_reprK ho hc hd out (by simpa using hk.length_eq) (fun i y e => hk.item i y (by simpa using e)) hg (fun b _ => Clear.nil b) (by show A.units + 1 + _ < cLine; omega) (fun _ _ e => e) (fun h' u tk hk => ⟨_, _, rfl, hQ h' u tk hk⟩) hz
theorem shows_dct (I : Inv X pins σ W.H s) {ks : List Key} {ds : List D} {a : Addr} {xs : List V} (as0 : List Addr) (rd : Reads s.heap (.ref a) (py (.dct ks ds)) as0) (hH : W.H a = some (.dK (ks.zip xs))) (hl : ks.length = xs.length) (hr : RepL (cn X) W ds xs) (p : purL ds = true) (hs : (py (.dct ks ds)).showable = true) (hz : (py (.dct ks ds)).shown.length ≤ sizeLine)
    {A : Around} {E : Value → Shared → Prop} {Q : Value → Shared → Prop} (hg : A.guards = some []) (hu : A.units + ((py (.dct ks ds)).depth + 1) < cLine)
    (hQ : ∀ h' u tk, (∀ b o, s.heap.get? b = some o → h'.get? b = some o) → Q (.str (py (.dct ks ds)).shown u) { s with heap := h', toks := tk }) : wpAny (model X.prog X.w) A (call (.builtin "repr") [.ref a]) Q E s := by
  obtain ⟨hsys, o, es, ep, ks', ho, hx, hd, hv, hk⟩ := dct_obj I hH hl
  have l2 : (ks.map keyPy).length = (pyL ds).length := by rw [List.length_map, pyL_length, hl, hr.length]
  simp only [py, PyData.shown] at hz hQ
  simp only [py, PyData.showable] at hs
  simp only [py, PyData.depth] at hu
  obtain ⟨s1, s2⟩ := PyData.showableKv_split _ hs
  rw [zip_fst l2] at s1
  rw [zip_snd l2] at s2
  obtain ⟨b1, hb1, k1⟩ := keys_show (X := X) (pins := pins) (σ := σ) (W := W) (s := s) (P := X.prog) (w := X.w) (ks := ks) hk s1 fun t z => by
    obtain ⟨q, hq, le⟩ := PyData.shownKv_key_le ((ks.map keyPy).zip (pyL ds)) t (by rw [zip_fst l2]; exact z)
    exact Nat.le_trans le (Nat.le_trans (dictText_mem_le hq) hz)
  obtain ⟨b2, hb2, k2⟩ := RepL.shows I hr p hv s2 fun t z => by
    obtain ⟨q, hq, le⟩ := PyData.shownKv_val_le ((ks.map keyPy).zip (pyL ds)) t (by rw [zip_snd l2]; exact z)
    exact Nat.le_trans le (Nat.le_trans (dictText_mem_le hq) hz)
  have d1 := PyData.depthAll_keys_le ((ks.map keyPy).zip (pyL ds))
  have d2 := PyData.depthAll_vals_le ((ks.map keyPy).zip (pyL ds))
  rw [zip_fst l2] at d1
  rw [zip_snd l2] at d2
  have hb := atMost_both hb1 hb2 d1 d2
  have out : a ∉ b1 ++ b2 := not_mem_of_deeper rd (by simp only [py, PyData.depth]; omega) hb
  rw [PyData.shownKv_eq, zip_fst l2, zip_snd l2] at hz hQ
  exact call_repr_slot (by omega) ⟨o, ho, hx.1⟩ F.slot_dict_repr (call_dict_reprK ho hx.1 hd hsys out (.of_two es.toList _ _ (k1.more_le (fun b z => List.mem_append_left _ z) d1) (k2.more_le (fun b z => List.mem_append_right _ z) d2)) hg (fun b _ => Clear.nil b) (by show A.units + 1 + _ < cLine; omega) (fun _ _ e => e) (fun h' u tk hk => ⟨_, _, rfl, hQ h' u tk hk⟩) hz)
def reprG : GC := fun ds st => match ds with | [d] => (reprB (frz st d)).map fun x => (.str x, st) | _ => none
theorem call_reprD (b : RG k X.A) : CallD X (.builtin "repr") reprG := by
  intro pins s σ H xs us Q I rv ⟨W, ds, d, st, e, ok, r, hg, q⟩
  subst e
  unfold reprG at hg
  split at hg
  · rename_i d0
    obtain ⟨v, rfl, r1⟩ := r.one
    obtain ⟨x, h1, h2⟩ := Option.map_eq_some_iff.mp hg
    cases h2
    obtain ⟨u, rfl, ru⟩ := rv.one
    unfold reprB at h1
    by_cases c : pur (frz W.st d0) = true ∧ (py (frz W.st d0)).showable = true ∧ (py (frz W.st d0)).shown.length ≤ sizeLine ∧ (py (frz W.st d0)).depth ≤ 150
    · rw [if_pos c] at h1
      cases h1
      obtain ⟨c1, c2, c3, c4⟩ := c
      have hu : ∀ n, n ≤ 150 → X.A.units + (n + 1) < cLine := fun n hn => by have := b.rm.un; omega
      have fin : ∀ {x : Str} (h' : Heap) (u : Tok) (tk : Nat), (∀ b o, s.heap.get? b = some o → h'.get? b = some o) → x = (py (frz W.st d0)).shown → EP X pins σ Q (.str x u) { s with heap := h', toks := tk } :=
        fun h' u tk hk hx => by subst hx; exact ⟨.str _, W.H, I.kept hk, ⟨_, rfl⟩, q W _ rfl ok (Ext.refl _) (.str _)⟩
      cases d0 with
      | non =>
        cases r1.non_inv
        cases ru
        exact PySem.P.repr_of_none (fin s.heap _ _ (fun _ _ e => e) rfl)
      | bl x =>
        cases r1.bl_inv
        cases ru
        exact PySem.P.repr_of_bool (fin s.heap _ _ (fun _ _ e => e) rfl)
      | int i =>
        cases r1.int_inv
        obtain ⟨t, rfl⟩ := ru
        exact PySem.P.repr_of_int (by simpa [frz, py, PyData.showable] using c2) (fin s.heap _ _ (fun _ _ e => e) rfl)
      | str x =>
        cases r1.str_inv
        obtain ⟨t, rfl⟩ := ru
        exact PySem.P.repr_of_str (fin s.heap _ _ (fun _ _ e => e) rfl) (by simpa [frz, py, PyData.shown] using c3)
      | tup ds =>
        obtain ⟨as0, rd⟩ := Rep.reads I r1 c1 ru
        obtain ⟨a, ys, rfl, ht, hr⟩ := r1.tup_inv
        cases ru
        exact shows_tup I as0 rd ht.sq hr (by unfold frz pur at c1; exact c1) c2 c3 b.gd (hu _ c4) fun h' u tk hk => fin h' u tk hk rfl
      | lst ds =>
        obtain ⟨as0, rd⟩ := Rep.reads I r1 c1 ru
        obtain ⟨a, ys, rfl, ht, hr⟩ := r1.lst_inv
        cases ru
        exact shows_lst I as0 rd ht.sq hr (by unfold frz pur at c1; exact c1) c2 c3 b.gd (hu _ c4) fun h' u tk hk => fin h' u tk hk rfl
      | dct ks ds =>
        obtain ⟨as0, rd⟩ := Rep.reads I r1 c1 ru
        unfold Rep at r1
        obtain ⟨a, ys, rfl, hH, _, hl, hr⟩ := r1
        cases ru
        exact shows_dct I as0 rd hH hl hr (by unfold frz pur at c1; exact c1) c2 c3 b.gd (hu _ c4) fun h' u tk hk => fin h' u tk hk rfl
      | cell n =>
        have e0 : frz W.st (.cell n) = (match W.st[n]? with | some (.lst ds) => .lst ds | some (.dct ks ds) => .dct ks ds | _ => .cell n) := rfl
        cases e1 : W.st[n]? with
        | none => rw [e1] at e0; rw [e0] at c1; unfold pur at c1; cases c1
        | some c =>
          cases c with
          | dead => rw [e1] at e0; rw [e0] at c1; unfold pur at c1; cases c1
          | lst es =>
            rw [e1] at e0
            have e0 : frz W.st (.cell n) = .lst es := e0
            rw [e0] at c1 c2 c3 c4 fin
            obtain ⟨a, ys, rfl, ha, hH, z⟩ := cell_lst ok r1 e1
            cases ru
            obtain ⟨its, rv', ⟨o, m, ho, hc, _, hd⟩, _⟩ := I.list (SqL.of hH)
            have p : purL es = true := by unfold pur at c1; exact c1
            obtain ⟨bs, rd⟩ := RepL.reads I z p rv'
            exact shows_lst I _ (.list ho hc hd rd) (SqL.of hH) z p c2 c3 b.gd (hu _ c4) fun h' u tk hk => fin h' u tk hk rfl
          | dct ks es =>
            rw [e1] at e0
            have e0 : frz W.st (.cell n) = .dct ks es := e0
            rw [e0] at c1 c2 c3 c4 fin
            obtain ⟨a, ys, rfl, ha, hH, hl, z⟩ := cell_dct ok r1 e1
            cases ru
            obtain ⟨_, o, es', ep, as, ho, hx, hd, hv, hk⟩ := dct_obj I hH hl
            have p : purL es = true := by unfold pur at c1; exact c1
            obtain ⟨bs, rd⟩ := RepL.reads I z p hv
            have l2 : (ks.map keyPy).length = (pyL es).length := by rw [List.length_map, pyL_length, hl, z.length]
            exact shows_dct I _ (.dict (kvs := (ks.map keyPy).zip (pyL es)) ho hx.1 hd (by rw [zip_fst l2]; exact hk) (by rw [zip_snd l2]; exact rd)) hH hl z p c2 c3 b.gd (hu _ c4) fun h' u tk hk => fin h' u tk hk rfl
      | glob x => unfold frz pur at c1; cases c1
      | scr x => unfold frz pur at c1; cases c1
    · rw [if_neg c] at h1; cases h1
  · cases hg
end
end Pd

namespace Pd
open PySem PySem.Spec L2
open PyProof.Rows hiding St

/-! ## a, b, *c = t -/
section
variable {prog : Program} {w : World} {A : Around} {E : Value → Shared → Prop} {s : Shared}
theorem walk_from {I ax : Addr} {items : Array Value} (W : Walks prog w A I [I, ax] [I] items.size (fun i v => items[i]? = some v) (fun i h => h.IsTupleIter I ax i ∧ h.IsTuple ax items)) (k : Nat) (hk : k ≤ items.size) :
    Walks prog w A I [I, ax] [I] (items.size - k) (fun i v => items[i + k]? = some v) (fun i h => h.IsTupleIter I ax (i + k) ∧ h.IsTuple ax items) where
  sub := W.sub
  frame := fun i h h' st x => W.frame (i + k) h h' st x
  item := fun i s Q E hi st q => W.item (i + k) s Q E (by omega) st fun v h' tk a b c => q v h' tk a (by rw [show i + 1 + k = i + k + 1 by omega]; exact b) c
  done := fun s Q E st q => W.done s Q E (by rw [show items.size - k + k = items.size by omega] at st; exact st) q
  self := fun i s Q E st q => W.self (i + k) s Q E st q
theorem unpack_star {t : Addr} {items : Array Value} {k : Nat} {Q : List Value → Shared → Prop} (hh : A.handled = none) (ht : s.heap.IsTuple t items) (hk : k ≤ items.size) (hz : items.size ≤ sizeLine)
    (hQ : ∀ (s' : Shared), (∀ b o, s.heap.get? b = some o → s'.heap.get? b = some o) → s'.gens = s.gens → s'.drawn = s.drawn → s'.os = s.os →
      Q (items.toList.take k ++ [.ref s'.heap.objs.size]) { s' with heap := s'.heap.push { cls := .type "list", data := .seq (items.toList.drop k).toArray } }) : wpAny (model prog w) A (unpackItems (.ref t) (k + 1) (some k)) Q E s := by
  have hlt : t ≠ s.heap.objs.size := by obtain ⟨o, ho, _⟩ := ht; exact Nat.ne_of_lt (Heap.lt_size ho)
  unfold unpackItems
  refine wpAny_bind ?_
  · unfold notIterableAtAll
    refine wpAny_bind (wpAny_specialOf ht.typeIs F.slot_tuple_iter.lookup ?_)
    refine wpAny_pure ?_
    simp only [Bool.false_eq_true, if_false]
    refine wpAny_bind (wpAny_holding (wpAny_pyIter_tuple ht ?_))
    refine wpAny_bind (wpAny_holding (wpAny_draw_tuple hlt k 0 _ _ ⟨_, Heap.get?_push_size _ rfl, rfl, rfl⟩ (ht.push _) (by omega) fun h₁ hit₁ hs₁ => ?_))
    rw [List.drop_zero]
    have hl : (List.take k items.toList).length = k := by simp; omega
    rw [if_neg (by rw [hl]; exact Nat.lt_irrefl k)]
    have ht₁ : h₁.IsTuple t items := (ht.push _).extBut hs₁.extBut hlt
    have W := (walk_from (Walks.tuple (prog := prog) (w := w) (A := A.in1) hh s.heap.objs.size t hlt items) k hk).toS
    have e0 : 0 + k = k := Nat.zero_add k
    refine wpAny_bind (wpAny_holding (wpAny_collect_iter (s := { s with heap := h₁ }) (.inr (.inr (.inr rfl))) W (fun i s' st => st.1.typeIs) ⟨by rw [e0]; rw [e0] at hit₁; exact hit₁, ht₁⟩ ?_ (by simp) (fun s' acc hm hacc => ?_) (by omega)))
    · intro b hb
      simp at hb
      rcases hb with rfl | rfl
      · obtain ⟨o, ho, _⟩ := hit₁; exact Heap.lt_size ho
      · obtain ⟨o, ho, _⟩ := ht₁; exact Heap.lt_size ho
    have eacc : acc.toList = items.toList.drop k := by
      apply List.ext_getElem?
      intro i
      by_cases hi : i < acc.size
      · have h1 := hacc.2 i acc[i] (by simp [hi])
        rw [List.getElem?_drop, Array.getElem?_toList, Array.getElem?_toList, Nat.add_comm k i, h1]
        simp [hi]
      · rw [List.getElem?_eq_none (by simp; omega), List.getElem?_eq_none (by simp; have := hacc.1; omega)]
    simp only [Nat.add_sub_cancel, Nat.sub_self, Nat.not_lt_zero, if_false, Nat.sub_zero]
    rw [eacc]
    have et : List.take (items.toList.drop k).length (items.toList.drop k) = items.toList.drop k := List.take_of_length_le (Nat.le_refl _)
    have ed : List.drop (items.toList.drop k).length (items.toList.drop k) = [] := List.drop_of_length_le (Nat.le_refl _)
    rw [et, ed]
    have fin := hQ s' (fun b o e => hm.heap b o (by intro z; simp at z; subst z; exact absurd (Heap.lt_size e) (Nat.lt_irrefl _)) (hs₁.extBut b o (Nat.ne_of_lt (Heap.lt_size e)) (Heap.get?_push_of_some _ e))) hm.gens hm.drawn hm.os
    show wpAny _ _ (newList (List.drop k items.toList) >>= _) _ _ s'
    refine wpAny_bind (wpAny_newObj_type ?_ (by have : (List.drop k items.toList).toArray.size ≤ sizeLine := by simp; omega
                                                exact this))
    refine wpAny_pure ?_
    rw [List.append_nil]
    exact fin
end
section
variable {X : Cx} {Wx : WX}
def gStar (K : PySem.W.Frag) (k : Nat) (t : TGs) : TG := fun v σ H Q => ∃ a xs, v = .ref a ∧ SqT K H a xs ∧ k ≤ xs.length ∧ ∀ p, H p = none → t (xs.take k ++ [.ref p]) σ (upd H p (.lst (xs.drop k))) Q
theorem pg_star {es es' : List Expr} {c : Nat} {k : Nat} {t : TGs} {pos : Pos} (hc : X.calm = true) (h : PGs X es' t)
    (hn : (assignEach es X.env).length = k + 1 := by rfl) (hst : (assignEach es X.env).findIdx? (·.1) = some k := by rfl) (hm : (assignEach es X.env).map (·.2) = (assignEach es' X.env).map (·.2) := by rfl) : PG X (.Tuple es c pos) (gStar X.K k t) := by
  refine ⟨fun pins s σ H v u Q I r hw => ?_⟩
  obtain ⟨a, xs, e1, hq, hl, hw⟩ := hw
  subst e1
  cases r
  obtain ⟨its, rv, ht, hz⟩ := I.tuple hq
  rw [PyProof.Rows.assign_Tuple]
  refine wpAny_bind (wpAny_standAt ?_)
  unfold unpack
  rw [hn, hst, hm]
  obtain ⟨o, ho, hcl, m, hd⟩ := ht
  have e2 := rv.length
  refine wpAny_bind (wpAny_holding (unpack_star (I.ok.hd hc) ⟨o, ho, hcl, m, hd⟩ (by simp; omega) (by simp; omega) fun s' hk hg hdr hos => ?_))
  have I0 : Inv X pins σ H { s with heap := s'.heap, toks := s'.toks } := I.kept hk
  have es' : { s with heap := s'.heap, toks := s'.toks } = s' := by cases s; cases s'; simp_all
  rw [es'] at I0
  have rv2 : Vals (xs.drop k) (its.drop k) := rv.drop k
  have I1 := I0.lnew (t' := s'.toks) rv2 (by rw [List.length_drop]; omega)
  have hw1 := hw s'.heap.objs.size (I0.hok.fresh (Nat.le_refl _))
  have rr : RelV (.ref s'.heap.objs.size) (.ref s'.heap.objs.size) := rfl
  exact h.run pins _ σ _ _ _ Q I1 ((rv.take k).append (.cons rr .nil)) hw1
def sStar (k : Nat) (gs : List GM) (m : EM) : SM := fun en st => smb (m en st) en fun d st => match d with
  | .tup ds => if k ≤ ds.length then (match gmAll gs (ds.take k ++ [.lst (ds.drop k)]) en st with | some en' => .nx en' st | none => .bad) else .bad
  | _ => .bad
theorem pds_star {es es' : List Expr} {c k : Nat} {vs : List Nat} {gs : List GM} {e : Expr} {m : EM} {pos pt : Pos} (he : PD X Wx e m) (hg : PDGs X vs es' gs) (hc : X.calm = true)
    (hn : (assignEach es X.env).length = k + 1 := by rfl) (hst : (assignEach es X.env).findIdx? (·.1) = some k := by rfl) (hm : (assignEach es X.env).map (·.2) = (assignEach es' X.env).map (·.2) := by rfl)
    (hs : swapsWithSole [.Tuple es c pt] e pos.line X.env = pure false := by rfl) (hw : swappedStores [.Tuple es c pt] e X.env = pure none := by rfl)
    (h1 : (assignEach [.Tuple es c pt] X.env).map (·.2) = [assign (.Tuple es c pt) X.env] := by rfl) : PDS X Wx (.Assign [.Tuple es c pt] e pos) (sStar k gs m) :=
  ⟨PS.weak (ps_asg he.pe (pg_star hc hg.pg hn hst hm) hs hw h1) fun Dn σ H ⟨W, en, e, ok, er, q⟩ => by
    subst e
    refine seqS ok er q fun d W1 v ok1 e1 er1 r1 q1 => ?_
    cases d with
    | tup ds =>
      have q1 : PostS (cn X) Wx W1 Dn (if k ≤ ds.length then (match gmAll gs (ds.take k ++ [.lst (ds.drop k)]) en W1.st with | some en' => .nx en' W1.st | none => .bad) else .bad) := q1
      by_cases hk : k ≤ ds.length
      · rw [if_pos hk] at q1
        cases e2 : gmAll gs (ds.take k ++ [.lst (ds.drop k)]) en W1.st with
        | none => rw [e2] at q1; exact q1.elim
        | some en' =>
          rw [e2] at q1
          obtain ⟨a, xs, rfl, ht, hr⟩ := r1.tup_inv
          refine ⟨a, xs, rfl, ht.sq, by rw [← hr.length]; exact hk, fun p hp => ?_⟩
          have rx := lay_lst ok1 hp (hr.drop k)
          have ex := lay_ext ok1 hp (.lst (xs.drop k))
          exact ⟨W1.lay p (.lst (xs.drop k)), en, _, en', rfl, lay_ok ok1 hp _, er1.ext ex, ((hr.take k).mn ex.mn).append (.cons rx .nil), e2, fun σ' er' _ => q1 (W1.lay p _) σ' rfl (lay_ok ok1 hp _) ex er'⟩
      · rw [if_neg hk] at q1; exact q1.elim
    | _ => exact q1.elim⟩

/-! ## t[::-1] -/
theorem sliceApplied_rev {prog : Program} {w : World} {A : Around} {E : Value → Shared → Prop} {s : Shared} {sl : Addr} {vl vu vs : Value} {n : Nat} {Q : Int × Int × Nat → Shared → Prop} (hs : s.heap.IsSliceOf sl vl vu vs) (pl : IsPart vl none) (pu : IsPart vu none) (ps : IsPart vs (some (-1)))
    (h : Q ((n : Int) - 1, -1, n) s) : wpAny (model prog w) A (Builtin.Slice.sliceApplied (.ref sl) (pure (n : Int))) Q E s := by
  obtain ⟨os, hos, hcs, hds⟩ := id hs
  unfold Builtin.Slice.sliceApplied Builtin.Slice.sliceFields
  refine wpAny_bind (wpAny_bind (wpAny_field hos hds (x := vl) rfl (wpAny_bind (wpAny_field hos hds (x := vu) rfl (wpAny_bind (wpAny_field hos hds (x := vs) rfl (wpAny_pure ?_)))))))
  refine wpAny_bind (HT.slicePart_ ps ?_)
  show wpAny _ _ (if ((-1 : Int) == 0) = true then _ else _) _ _ s
  rw [if_neg (by decide)]
  refine wpAny_bind (HT.slicePart_ pl (wpAny_bind (HT.slicePart_ pu (wpAny_bind (wpAny_pure ?_)))))
  show wpAny _ _ (match Builtin.Slice.sliceAdjust none none (-1) (n : Int) with | (lo, hi) => pure (lo, (-1 : Int), Builtin.Slice.slicePlaces lo hi (-1))) _ _ s
  have e : Builtin.Slice.sliceAdjust none none (-1) (n : Int) = ((n : Int) - 1, -1) := rfl
  rw [e]
  have e2 : Builtin.Slice.slicePlaces ((n : Int) - 1) (-1) (-1) = n := by
    unfold Builtin.Slice.slicePlaces
    have h1 : ¬ ((-1 : Int) > 0) := by omega
    simp only [h1, if_false, show (- -1 : Int) = 1 by decide, Int.ediv_one]
    split <;> omega
  show wpAny _ _ (pure ((n : Int) - 1, (-1 : Int), Builtin.Slice.slicePlaces ((n : Int) - 1) (-1) (-1))) _ _ s
  rw [e2]
  exact wpAny_pure h
theorem fm_congr {α β : Type} {f g : α → Option β} : ∀ {l : List α}, (∀ x ∈ l, f x = g x) → l.filterMap f = l.filterMap g
  | [], _ => rfl
  | a :: r, h => by
    rw [List.filterMap_cons, List.filterMap_cons, h a (.head _), fm_congr fun x hx => h x (.tail _ hx)]
theorem pick_rev (xs : List Value) : ((List.range xs.length).filterMap fun (m : Nat) => xs.toArray[(((xs.length : Nat) : Int) - 1 + (m : Int) * -1).toNat]?) = xs.reverse := by
  have : (List.range xs.length).filterMap (fun (m : Nat) => xs.toArray[(((xs.length : Nat) : Int) - 1 + (m : Int) * -1).toNat]?) = (List.range xs.length).filterMap fun m => xs.reverse[m]? := by
    apply fm_congr
    intro m hm
    have hm := List.mem_range.mp hm
    have : (((xs.length : Nat) : Int) - 1 + (m : Int) * -1).toNat = xs.length - 1 - m := by omega
    rw [this, List.getElem?_reverse hm]
    simp
  rw [this]
  have h2 : ∀ (ys : List Value), (List.range ys.length).filterMap (fun m => ys[m]?) = ys := by
    intro ys
    apply List.ext_getElem?
    intro i
    have : (List.range ys.length).filterMap (fun m => ys[m]?) = ys := by
      induction ys with
      | nil => rfl
      | cons y ys ih =>
        rw [List.length_cons, List.range_succ_eq_map, List.filterMap_cons]
        simp only [List.getElem?_cons_zero, List.filterMap_map]
        have : ((fun m => (y :: ys)[m]?) ∘ Nat.succ) = fun m => ys[m]? := by funext m; rfl
        rw [this, ih]
    rw [this]
  have := h2 xs.reverse
  rw [List.length_reverse] at this
  exact this
theorem getItem_tuple_rev {prog : Program} {w : World} {A : Around} {E : Value → Shared → Prop} {s : Shared} {t sl : Addr} {its : List Value} {vl vu vs : Value} {Q : Value → Shared → Prop} (ht : IsTup s.heap t its.toArray) (hs : s.heap.IsSliceOf sl vl vu vs) (pl : IsPart vl none) (pu : IsPart vu none) (ps : IsPart vs (some (-1)))
    (h : Q (.ref s.heap.objs.size) { s with heap := s.heap.push { cls := .type "tuple", data := .seq its.reverse.toArray } }) (hsz : its.length ≤ sizeLine) : wpAny (model prog w) A (getItem (.ref t) (.ref sl)) Q E s := by
  have htake : sizeOk (.seq its.reverse.toArray) := by
    show its.reverse.toArray.size ≤ sizeLine
    rw [List.size_toArray, List.length_reverse]
    exact hsz
  obtain ⟨os, hos, hcs, hds⟩ := id hs
  have hTs : s.TypeIs (.ref sl) "slice" := ⟨os, hos, hcs⟩
  unfold getItem
  try with_reducible refine wpAny_holding ?_
  first | refine wpAny_bind (wpAny_pure ?_) | skip
  refine wpAny_bind (wpAny_sequenceKey ht.typeIs (by decide) ?_)
  refine wpAny_bind (wpAny_callSpecial?_slot (name := Str.ofString "__getitem__") ht.typeIs PyProof.Rows.slot_tuple_getitem
    (wpAny_call_entry PyProof.Rows.slot_tuple_getitem ht.typeIs entry_tuple_getitem ?_ (args_tuple_getitem _ _)))
  show wpAny _ _ (Builtin.Tuple.tupleItemsOf (.ref t) >>= _) _ _ s
  refine wpAny_bind (tupleItemsOf_ ht ?_)
  refine wpAny_bind (wpAny_typeOf hTs ?_)
  rw [if_pos (by decide)]
  have e0 : its.toArray.size = its.length := List.size_toArray ..
  rw [e0]
  refine wpAny_bind (sliceApplied_rev hs pl pu ps ?_)
  have hno : ¬ ((((its.length : Nat) : Int) - 1 == 0 && (-1 : Int) == 1 && its.length == its.length) = true) := by
    intro q
    rw [Bool.and_eq_true, Bool.and_eq_true] at q
    exact absurd q.1.2 (by decide)
  show wpAny _ _ (if ((((its.length : Nat) : Int) - 1 == 0 && (-1 : Int) == 1 && its.length == its.length) = true) then _ else _) _ _ s
  rw [if_neg hno, pick_rev]
  first
    | exact wpAny_bind (m := Builtin.Tuple.tupleExact _) (wpAny_newObj_type (wpAny_pure ⟨_, rfl, wpAny_pure h⟩) htake)
    | exact wpAny_bind (m := Builtin.Tuple.tupleExact _) (wpAny_newObj_type (wpAny_bind (wpAny_pure (wpAny_pure ⟨_, rfl, wpAny_pure h⟩))) htake)
    | exact wpAny_bind (wpAny_bind (m := Builtin.Tuple.tupleExact _) (wpAny_newObj_type (wpAny_pure (wpAny_pure ⟨_, rfl, wpAny_pure h⟩)) htake))
    | exact wpAny_bind (wpAny_bind (m := Builtin.Tuple.tupleExact _) (wpAny_newObj_type (wpAny_pure ⟨_, rfl, wpAny_pure h⟩) htake))
def tRevA (K : PySem.W.Frag) (te : TE) : TE := fun σ H Q => te σ H fun x H1 => ∃ a xs, x = .ref a ∧ ((SqL K H1 a xs ∧ ∀ p, H1 p = none → Q (.ref p) (upd H1 p (.lst xs.reverse))) ∨ (SqT K H1 a xs ∧ ∀ p, H1 p = none → Q (.ref p) (upd H1 p (.tup xs.reverse))))
theorem pe_revA {e : Expr} {te : TE} {k : Nat} {p1 p2 p3 pos : Pos} (he : PE X e te) : PE X (.Subscript e (.Slice none none (some (.UnaryOp .USub (.Constant (.int 1) k p1) p2)) p3) pos) (tRevA X.K te) := by
  refine ⟨fun pins s σ H Q I h => ?_⟩
  refine Subscript_ (thn (he.run pins s σ H _ I h) fun v s1 ⟨x, H1, I1, r1, q1⟩ => ?_)
  obtain ⟨a, xs, ex, q⟩ := q1
  subst ex
  cases r1
  have hst : PO X (some (.UnaryOp .USub (.Constant (.int 1) k p1) p2)) (tPart (tUn (rU fun i => .int (-i)) (tC (.int 1)))) := po_some (pe_un un_neg pe_int)
  refine wpAny_Slice (thn (po_none.run pins s1 σ H1 (fun o H2 => o = none ∧ H2 = H1) I1 ⟨rfl, rfl⟩) fun vl s2 ⟨l, H2, I2, pl, el, e2⟩ => ?_)
  subst el e2
  refine thn (po_none.run pins s2 σ H2 (fun o H3 => o = none ∧ H3 = H2) I2 ⟨rfl, rfl⟩) fun vu s3 ⟨u, H3, I3, pu, eu, e3⟩ => ?_
  subst eu e3
  refine thn (hst.run pins s3 σ H3 (fun o H4 => o = some (-1) ∧ H4 = H3) I3 ⟨1, rfl, -1, rfl, rfl, rfl⟩) fun vs s4 ⟨o, H4, I4, ps, eo, e4⟩ => ?_
  subst eo e4
  have I5 : Inv X pins σ H4 { s4 with heap := s4.heap.push { cls := .type "slice", data := .fields #[vl, vu, vs] } } := I4.kept (t' := s4.toks) fun b ob q => Heap.get?_push_of_some _ q
  rcases q with ⟨hx, q⟩ | ⟨hx, q⟩
  · obtain ⟨its, r, ht, hz⟩ := I5.list hx
    have hlen := r.length
    show wpAny (model X.prog X.w) X.A (subscriptTail e (.Slice none none (some (.UnaryOp .USub (.Constant (.int 1) k p1) p2)) p3) (.ref a) (.ref s4.heap.objs.size)) (EP X pins σ Q) X.xe { s4 with heap := s4.heap.push { cls := .type "slice", data := .fields #[vl, vu, vs] } }
    refine tail_any (ops := [.ref a, .ref s4.heap.objs.size]) ht.isList.typeIs (PySem.slot_list_getitem.lookup) ?_ (by with_unfolding_all rfl)
    refine wpAny_getItem_list_slice ht.isList (Heap.IsSliceOf.new _ vl vu vs) pl pu ps (by decide) ?_ (by rw [List.size_toArray]; omega)
    rw [PySem.W.krv_pick]
    refine ⟨.ref _, _, I5.laid (t' := s4.toks) (o := .lst xs.reverse) (fun b ob q => Heap.get?_push_of_some _ q) (Nat.le_refl _) ?_, rfl, q _ (I5.hok.fresh (Nat.le_refl _))⟩
    exact ⟨by rw [List.length_reverse]; exact hz, _, 0, r.reverse, Heap.get?_push_size _ rfl⟩
  · obtain ⟨its, r, ht, hz⟩ := I5.tuple hx
    have hlen := r.length
    show wpAny (model X.prog X.w) X.A (subscriptTail e (.Slice none none (some (.UnaryOp .USub (.Constant (.int 1) k p1) p2)) p3) (.ref a) (.ref s4.heap.objs.size)) (EP X pins σ Q) X.xe { s4 with heap := s4.heap.push { cls := .type "slice", data := .fields #[vl, vu, vs] } }
    refine tail_any (ops := [.ref a, .ref s4.heap.objs.size]) ht.typeIs (PyProof.Rows.slot_tuple_getitem.lookup) ?_ (by with_unfolding_all rfl)
    refine getItem_tuple_rev ht (Heap.IsSliceOf.new _ vl vu vs) pl pu ps ?_ (by omega)
    refine ⟨.ref _, _, I5.laid (t' := s4.toks) (o := .tup xs.reverse) (fun b ob q => Heap.get?_push_of_some _ q) (Nat.le_refl _) ?_, rfl, q _ (I5.hok.fresh (Nat.le_refl _))⟩
    exact ⟨by rw [List.length_reverse]; exact hz, _, r.reverse, IsTup.new _ _⟩
def revA (d : D) (st : Sto) : Option D := match d with
  | .tup ds => some (.tup ds.reverse)
  | d => revD d st
theorem pd_rev {e : Expr} {m : EM} {k' : Nat} {p1 p2 p3 pos : Pos} (he : PD X Wx e m) : PD X Wx (.Subscript e (.Slice none none (some (.UnaryOp .USub (.Constant (.int 1) k' p1) p2)) p3) pos) (mUn revA m) :=
  ⟨PE.weak (pe_revA he.pe) fun σ H Q ⟨W, en, e, ok, er, q⟩ => by
    subst e
    refine seqE ok er q fun d W1 v ok1 e1 er1 r1 q1 => ?_
    cases e4 : revA d W1.st with
    | none => rw [e4] at q1; exact q1.elim
    | some d' =>
      rw [e4] at q1
      have fin : ∀ {ds : List D}, d' = .lst ds.reverse → seqB W1.st d = some ds → (∀ es, d ≠ .tup es) → ∃ a xs, v = .ref a ∧ ((SqL X.K W1.H a xs ∧ ∀ p, W1.H p = none → Q (.ref p) (upd W1.H p (.lst xs.reverse))) ∨ (SqT X.K W1.H a xs ∧ ∀ p, W1.H p = none → Q (.ref p) (upd W1.H p (.tup xs.reverse)))) := by
        intro ds h1 h2 h3
        subst h1
        cases d with
        | scr ns =>
          cases h2
          unfold Rep at r1
          obtain ⟨a, rfl, z⟩ := r1
          exact ⟨a, _, rfl, .inl ⟨z.sq, fun p' hp => q1 (W1.lay p' _) _ rfl (lay_ok ok1 hp _) (lay_ext ok1 hp _) (lay_lst ok1 hp (RepL.of_ints ns).reverse)⟩⟩
        | tup es => exact absurd rfl (h3 es)
        | lst es =>
          cases h2
          obtain ⟨p, xs, rfl, z, hH⟩ := lists_of ok1 r1 rfl
          exact ⟨p, xs, rfl, .inl ⟨SqL.of hH, fun p' hp => q1 (W1.lay p' _) _ rfl (lay_ok ok1 hp _) (lay_ext ok1 hp _) (lay_lst ok1 hp z.reverse)⟩⟩
        | cell n =>
          have h2 : (match deref W1.st (.cell n) with | .lst ds => some ds | .tup ds => some ds | _ => none) = some ds := h2
          cases e5 : deref W1.st (.cell n) with
          | lst ds =>
            rw [e5] at h2
            cases h2
            obtain ⟨p, xs, rfl, z, hH⟩ := lists_of ok1 r1 e5
            exact ⟨p, xs, rfl, .inl ⟨SqL.of hH, fun p' hp => q1 (W1.lay p' _) _ rfl (lay_ok ok1 hp _) (lay_ext ok1 hp _) (lay_lst ok1 hp z.reverse)⟩⟩
          | tup ds =>
            rw [deref_cell] at e5
            cases e6 : W1.st[n]? with
            | none => rw [e6] at e5; cases e5
            | some c => cases c <;> (rw [e6] at e5; cases e5)
          | _ => rw [e5] at h2; cases h2
        | _ => cases h2
      unfold revA at e4
      cases d with
      | tup ds =>
        cases e4
        obtain ⟨a, xs, rfl, z, hr⟩ := r1.tup_inv
        exact ⟨a, xs, rfl, .inr ⟨z.sq, fun p' hp => q1 (W1.lay p' _) _ rfl (lay_ok ok1 hp _) (lay_ext ok1 hp _) (lay_tup ok1 hp hr.reverse)⟩⟩
      | scr ns => cases e4; exact fin rfl rfl (by intro _ z; cases z)
      | lst ds => cases e4; exact fin rfl rfl (by intro _ z; cases z)
      | cell n =>
        have e4 : (match deref W1.st (.cell n) with | .lst ds => some (D.lst ds.reverse) | _ => none) = some d' := e4
        cases e5 : deref W1.st (.cell n) with
        | lst ds =>
          rw [e5] at e4
          cases e4
          refine fin rfl ?_ (by intro _ z; cases z)
          show (match deref W1.st (.cell n) with | .lst ds => some ds | .tup ds => some ds | _ => none) = some ds
          rw [e5]
        | _ => rw [e5] at e4; cases e4
      | _ => cases e4⟩
/-- a reversed list, to be changed -/
def mUnC (g : D → Sto → Option D) (m : EM) : EM := fun en st => mb (m en st) fun d st => match g d st with | some (.lst ds) => .ok (.cell st.length) (st ++ [.lst ds]) | _ => .bad
theorem pd_revC {e : Expr} {m : EM} {k' : Nat} {p1 p2 p3 pos : Pos} (he : PD X Wx e m) : PD X Wx (.Subscript e (.Slice none none (some (.UnaryOp .USub (.Constant (.int 1) k' p1) p2)) p3) pos) (mUnC revD m) :=
  ⟨PE.weak (pe_revL he.pe) fun σ H Q ⟨W, en, e, ok, er, q⟩ => by
    subst e
    refine seqE ok er q fun d W1 v ok1 e1 er1 r1 q1 => ?_
    have fin : ∀ {ds : List D} {p : Addr} {xs : List V}, revD d W1.st = some (.lst ds.reverse) → SqL X.K W1.H p xs → RepL (cn X) W1 ds xs → v = .ref p → ∃ a xs, v = .ref a ∧ SqL X.K W1.H a xs ∧ ∀ p, W1.H p = none → Q (.ref p) (upd W1.H p (.lst xs.reverse)) := by
      intro ds p xs h1 h2 h3 h4
      rw [h1] at q1
      exact ⟨p, xs, h4, h2, fun p' hp => q1 (W1.cel p' (.lst xs.reverse) (.lst ds.reverse)) _ rfl (cel_lst_ok ok1 hp h3.reverse) (cel_ext ok1 hp _ _) (cel_rep ok1)⟩
    cases d with
    | scr ns =>
      have r1' := r1
      unfold Rep at r1'
      obtain ⟨a, rfl, z⟩ := r1'
      exact fin rfl z.sq (RepL.of_ints ns) rfl
    | lst ds =>
      obtain ⟨p, xs, rfl, z, hH⟩ := lists_of ok1 r1 rfl
      exact fin rfl (SqL.of hH) z rfl
    | cell n =>
      have e4 : revD (.cell n) W1.st = (match deref W1.st (.cell n) with | .lst ds => some (D.lst ds.reverse) | _ => none) := rfl
      cases e5 : deref W1.st (.cell n) with
      | lst ds =>
        rw [e5] at e4
        obtain ⟨p, xs, rfl, z, hH⟩ := lists_of ok1 r1 e5
        exact fin e4 (SqL.of hH) z rfl
      | _ => rw [e5] at e4; rw [e4] at q1; exact q1.elim
    | _ => exact q1.elim⟩
/-- list + list, to be changed -/
def mOpC (g : D → D → Sto → Option D) (ma mb' : EM) : EM := fun en st => mb (ma en st) fun x st => mb (mb' en st) fun y st => match g x y st with | some (.lst ds) => .ok (.cell st.length) (st ++ [.lst ds]) | _ => .bad
def catD (a b : D) (st : Sto) : Option D := match deref st a, deref st b with
    | .lst xs, .lst ys => if small (xs.length + ys.length) then some (.lst (xs ++ ys)) else none
    | _, _ => none
theorem pd_catC {a b : Expr} {ma mb' : EM} {pos : Pos} (ha : PD X Wx a ma) (hb : PD X Wx b mb') : PD X Wx (.BinOp a .Add b pos) (mOpC catD ma mb') :=
  ⟨PE.weak (pe_op op_cat ha.pe hb.pe) fun σ H Q ⟨W, en, e, ok, er, q⟩ => by
    subst e
    refine seqE ok er q fun x W1 v ok1 e1 er1 r1 q1 => ?_
    refine seqE ok1 er1 q1 fun y W2 u ok2 e2 er2 r2 q2 => ?_
    unfold catD at q2
    have r1 := r1.ext e2
    cases ex : deref W2.st x with
    | lst xs =>
      cases ey : deref W2.st y with
      | lst ys =>
        rw [ex, ey] at q2
        have q2 : PostE (cn X) Wx W2 σ Q (match (if small (xs.length + ys.length) = true then some (D.lst (xs ++ ys)) else none) with | some (.lst ds) => .ok (.cell W2.st.length) (W2.st ++ [.lst ds]) | _ => .bad) := q2
        by_cases c : small (xs.length + ys.length) = true
        · rw [if_pos c] at q2
          obtain ⟨p1, vs, rfl, z1, h1⟩ := lists_of ok2 r1 ex
          obtain ⟨p2, us, rfl, z2, h2⟩ := lists_of ok2 r2 ey
          refine ⟨p1, p2, vs, us, rfl, rfl, h1, h2, by rw [← z1.length, ← z2.length]; exact small_iff.mp c, fun p hp => ?_⟩
          exact q2 (W2.cel p (.lst (vs ++ us)) (.lst (xs ++ ys))) _ rfl (cel_lst_ok ok2 hp (z1.append z2)) (cel_ext ok2 hp _ _) (cel_rep ok2)
        · rw [if_neg c] at q2; exact q2.elim
      | _ => rw [ex, ey] at q2; exact q2.elim
    | _ => rw [ex] at q2; exact q2.elim⟩

/-! ## all, any -/
def blsD : List D → Option (List Bool)
  | [] => some []
  | .bl i :: r => (blsD r).map (i :: ·)
  | _ => none
theorem blsD_eq : ∀ {ds : List D} {ns : List Bool}, blsD ds = some ns → ds = ns.map .bl
  | [], _, h => by cases h; rfl
  | .bl i :: r, _, h => by
    obtain ⟨ns, h1, rfl⟩ := Option.map_eq_some_iff.mp (show (blsD r).map (i :: ·) = some _ from h)
    rw [List.map_cons, ← blsD_eq h1]
  | .non :: _, _, h => by cases h
  | .str _ :: _, _, h => by cases h
  | .int _ :: _, _, h => by cases h
  | .tup _ :: _, _, h => by cases h
  | .lst _ :: _, _, h => by cases h
  | .dct _ _ :: _, _, h => by cases h
  | .cell _ :: _, _, h => by cases h
  | .glob _ :: _, _, h => by cases h
  | .scr _ :: _, _, h => by cases h
def allG : GC := fun ds st => match ds with | [d] => ((lstB st d).bind blsD).map fun ns => (.bl (ns.all id), st) | _ => none
def anyG : GC := fun ds st => match ds with | [d] => ((lstB st d).bind blsD).map fun ns => (.bl (ns.any id), st) | _ => none
theorem call_allD (hc : X.calm = true) : CallD X (.builtin "all") allG := by
  intro pins s σ H xs us Q I rv ⟨W, ds, d, st, e, ok, r, hg, q⟩
  subst e
  unfold allG at hg
  split at hg
  · obtain ⟨v, rfl, r1⟩ := r.one
    obtain ⟨ns, h1, h2⟩ := Option.map_eq_some_iff.mp hg
    obtain ⟨es, h3, h4⟩ := Option.bind_eq_some_iff.mp h1
    cases h2
    obtain ⟨p, ys, rfl, z, hs⟩ := lists_of ok r1 (lstB_eq h3)
    rw [blsD_eq h4] at z
    rw [z.bls] at hs
    exact cr_all hc pins s σ _ _ us Q I rv ⟨p, ns, rfl, SqL.of hs, q W _ rfl ok (Ext.refl _) (.bl _)⟩
  · cases hg
theorem call_anyD (hc : X.calm = true) : CallD X (.builtin "any") anyG := by
  intro pins s σ H xs us Q I rv ⟨W, ds, d, st, e, ok, r, hg, q⟩
  subst e
  unfold anyG at hg
  split at hg
  · obtain ⟨v, rfl, r1⟩ := r.one
    obtain ⟨ns, h1, h2⟩ := Option.map_eq_some_iff.mp hg
    obtain ⟨es, h3, h4⟩ := Option.bind_eq_some_iff.mp h1
    cases h2
    obtain ⟨p, ys, rfl, z, hs⟩ := lists_of ok r1 (lstB_eq h3)
    rw [blsD_eq h4] at z
    rw [z.bls] at hs
    exact cr_any hc pins s σ _ _ us Q I rv ⟨p, ns, rfl, SqL.of hs, q W _ rfl ok (Ext.refl _) (.bl _)⟩
  · cases hg
end
end Pd

namespace Pd
open PySem PySem.Spec L2
open PyProof.Rows hiding St
/-! ## dict displays -/
section
variable {X : Cx} {Wx : WX} {pos : Pos}
def mDnew : EM := fun _ st => .ok (.dct [] []) st
def mDnewC : EM := fun _ st => .ok (.cell st.length) (st ++ [.dct [] []])
theorem pd_dnew : PD X Wx (.Dict [] [] pos) mDnew := ⟨PE.weak pe_dnewK fun σ H Q ⟨W, en, e, ok, er, q⟩ => by
  subst e
  intro p hp
  exact q (W.lay p (.dK [])) _ rfl (lay_ok ok hp _) (lay_ext ok hp _) (lay_dct (ks := []) (ds := []) (xs := []) ok hp rfl .nil)⟩
theorem pd_dnewC : PD X Wx (.Dict [] [] pos) mDnewC := ⟨PE.weak pe_dnewK fun σ H Q ⟨W, en, e, ok, er, q⟩ => by
  subst e
  intro p hp
  exact q (W.cel p (.dK []) (.dct [] [])) _ rfl (cel_dct_ok (ks := []) (ds := []) (xs := []) ok hp rfl .nil) (cel_ext ok hp _ _) (cel_rep ok)⟩
def keyD : D → Option Key
  | .int i => some (.inl i)
  | .str x => some (.inr x)
  | _ => none
theorem keyD_v {C : Cn} {W : Wd} {d : D} {v : V} {k : Key} (r : Rep C W d v) (h : keyD d = some k) : v = kV k := by
  cases d with
  | int i => cases h; exact r.int_inv
  | str x => cases h; exact r.str_inv
  | _ => cases h
abbrev PM := List (EM × EM)
def mPairs : PM → En → Sto → Out (List D × List D)
  | [], _, st => .ok ([], []) st
  | (mk, mv) :: r, en, st => mb (mk en st) fun k st => mb (mv en st) fun v st => mb (mPairs r en st) fun ps st => .ok (k :: ps.1, v :: ps.2) st
def PostP (C : Cn) (W : Wd) (σ : St) (Wx : WX) (Q : List (V × V) → Hp → Prop) : Out (List D × List D) → Prop
  | .ok ps st => ∀ W' us vs, W'.st = st → WOk C W' → Ext W W' → RepL C W' ps.1 us → RepL C W' ps.2 vs → Q (us.zip vs) W'.H
  | .err e st => ∀ W' cls dd, W'.st = st → WOk C W' → Ext W W' → ExR C W' e cls dd → Wx cls dd σ W'.H
  | .bad => False
theorem PostP.ext {C : Cn} {W W' : Wd} {σ : St} {Q : List (V × V) → Hp → Prop} {o : Out (List D × List D)} (h : PostP C W σ Wx Q o) (e : Ext W W') : PostP C W' σ Wx Q o := by
  cases o with
  | ok d st => exact fun W2 us vs h1 h2 h3 => h W2 us vs h1 h2 (e.trans h3)
  | err x st => exact fun W2 c dd h1 h2 h3 => h W2 c dd h1 h2 (e.trans h3)
  | bad => exact h
theorem seqP {C : Cn} {W : Wd} {σ : St} {en : En} {m : EM} {f : D → Sto → Out (List D × List D)} {Q : List (V × V) → Hp → Prop} {R : VK} (ok : WOk C W) (er : EnvR C W σ en) (h : PostP C W σ Wx Q (mb (m en W.st) f))
    (hok : ∀ d W' v, WOk C W' → Ext W W' → EnvR C W' σ en → Rep C W' d v → PostP C W' σ Wx Q (f d W'.st) → R v W'.H) : tD C Wx m σ W.H R := by
  refine ⟨W, en, rfl, ok, er, ?_⟩
  cases e : m en W.st with
  | ok d st =>
    rw [e] at h
    exact fun W' v h1 h2 h3 h4 => hok d W' v h2 h3 (er.ext h3) h4 (by subst h1; exact PostP.ext h h3)
  | err x st => rw [e] at h; exact h
  | bad => rw [e] at h; exact h
inductive PDP (X : Cx) (Wx : WX) : List (Option Expr) → List Expr → PM → Prop
  | nil : PDP X Wx [] [] []
  | cons {k v : Expr} {ks : List (Option Expr)} {vs : List Expr} {mk mv : EM} {ms : PM} (hk : PD X Wx k mk) (hv : PD X Wx v mv) (hr : PDP X Wx ks vs ms) : PDP X Wx (some k :: ks) (v :: vs) ((mk, mv) :: ms)
def trsOf (C : Cn) (Wx : WX) : PM → List (TE × TE)
  | [] => []
  | (mk, mv) :: r => (tD C Wx mk, tD C Wx mv) :: trsOf C Wx r
theorem PDP.pps : ∀ {ks : List (Option Expr)} {vs : List Expr} {ms : PM}, PDP X Wx ks vs ms → PPs X pos ks vs (trsOf (cn X) Wx ms)
  | _, _, _, .nil => pps_nil
  | _, _, _, .cons hk hv hr => pps_cons hk.pe hv.pe (PDP.pps hr)
theorem PDP.all : ∀ {ks : List (Option Expr)} {vs : List Expr} {ms : PM}, PDP X Wx ks vs ms → ks.all (·.isSome) = true ∧ ks.length = vs.length
  | _, _, _, .nil => ⟨rfl, rfl⟩
  | _, _, _, .cons _ _ hr => by obtain ⟨a, b⟩ := PDP.all hr; simp [a, b]
theorem pairs_of {C : Cn} : ∀ {ms : PM} {W : Wd} {σ : St} {en : En} {Q : List (V × V) → Hp → Prop}, WOk C W → EnvR C W σ en → PostP C W σ Wx Q (mPairs ms en W.st) → tPairs (trsOf C Wx ms) σ W.H Q
  | [], W, σ, en, Q, ok, er, q => q W [] [] rfl ok (Ext.refl _) .nil .nil
  | (mk, mv) :: r, W, σ, en, Q, ok, er, q => by
    refine seqP ok er q fun k W1 x ok1 e1 er1 r1 q1 => ?_
    refine seqP ok1 er1 q1 fun v W2 y ok2 e2 er2 r2 q2 => ?_
    refine pairs_of (ms := r) (en := en) ok2 er2 ?_
    cases e : mPairs r en W2.st with
    | ok ps st =>
      rw [e] at q2
      exact fun W3 us vs h1 h2 h3 h4 h5 => q2 W3 (x :: us) (y :: vs) h1 h2 h3 (.cons ((r1.ext e2).ext h3) h4) (.cons (r2.ext h3) h5)
    | err z st => rw [e] at q2; exact q2
    | bad => rw [e] at q2; exact q2
def keysD : List D → Option (List Key)
  | [] => some []
  | d :: r => (keyD d).bind fun k => (keysD r).map (k :: ·)
theorem keysD_v {C : Cn} {W : Wd} : ∀ {ds : List D} {vs : List V} {ks : List Key}, RepL C W ds vs → keysD ds = some ks → vs = ks.map kV
  | [], _, _, r, h => by cases h; exact r.nil_inv
  | d :: ds, _, _, r, h => by
    obtain ⟨v, t, rfl, h1, h2⟩ := r.cons_inv
    obtain ⟨k, h3, h4⟩ := Option.bind_eq_some_iff.mp (show (keyD d).bind (fun k => (keysD ds).map (k :: ·)) = some _ from h)
    obtain ⟨ks, h5, rfl⟩ := Option.map_eq_some_iff.mp h4
    rw [List.map_cons, keyD_v h1 h3, keysD_v h2 h5]
theorem keysD_len : ∀ {ds : List D} {ks : List Key}, keysD ds = some ks → ds.length = ks.length
  | [], _, h => by cases h; rfl
  | d :: ds, _, h => by
    obtain ⟨k, h3, h4⟩ := Option.bind_eq_some_iff.mp (show (keyD d).bind (fun k => (keysD ds).map (k :: ·)) = some _ from h)
    obtain ⟨ks, h5, rfl⟩ := Option.map_eq_some_iff.mp h4
    rw [List.length_cons, List.length_cons, keysD_len h5]
def distinct : List Key → Bool
  | [] => true
  | k :: r => !(r.any fun j => decide (j = k)) && distinct r
theorem zip_map_kV : ∀ (ks : List Key) (vs : List V), (ks.map kV).zip vs = (ks.zip vs).map fun kv => (kV kv.1, kv.2)
  | [], _ => rfl
  | _ :: _, [] => rfl
  | k :: ks, v :: vs => by rw [List.map_cons, List.zip_cons_cons, zip_map_kV ks vs]; rfl
theorem merge_app : ∀ (more kvs : List (Key × V)), distinct (kvs.map (·.1) ++ more.map (·.1)) = true → mergeK kvs more = kvs ++ more
  | [], kvs, _ => by rw [List.append_nil]; rfl
  | p :: r, kvs, h => by
    have hno : (kvs.any fun kv => decide (kv.1 = p.1)) = false := by
      rw [Bool.eq_false_iff]
      intro z
      obtain ⟨q, hq, e⟩ := List.any_eq_true.mp z
      have e := of_decide_eq_true e
      have : ∀ (l : List Key) (m : List Key), q.1 ∈ l → distinct (l ++ p.1 :: m) = true → False := by
        intro l
        induction l with
        | nil => intro m hm; cases hm
        | cons k l ih =>
          intro m hm hd
          rw [List.cons_append] at hd
          unfold distinct at hd
          rw [Bool.and_eq_true, Bool.not_eq_true'] at hd
          rcases List.mem_cons.mp hm with z | z
          · have := hd.1
            rw [Bool.eq_false_iff] at this
            exact this (List.any_eq_true.mpr ⟨p.1, by simp, decide_eq_true (by rw [← e, z])⟩)
          · exact ih m z hd.2
      exact this _ _ (List.mem_map_of_mem (f := (·.1)) hq) (by simpa using h)
    show mergeK (putK kvs p.1 p.2) r = _
    unfold putK
    rw [hno]
    rw [if_neg (by decide)]
    rw [merge_app r (kvs ++ [(p.1, p.2)]) (by simpa using h)]
    simp
theorem merge_nil {ks : List Key} {vs : List V} (hl : ks.length = vs.length) (h : distinct ks = true) : mergeK [] (ks.zip vs) = ks.zip vs := by
  rw [merge_app]
  · rfl
  · rw [List.map_nil, List.nil_append, List.map_fst_zip (by omega)]; exact h
def isE : Option Cel → Bool
  | some (.dct [] []) => true
  | _ => false
theorem isE_eq {o : Option Cel} (h : isE o = true) : o = some (.dct [] []) := by
  unfold isE at h
  split at h
  · rfl
  · cases h
/-- {k: v, ..} that never changes, that does -/
def mDisp (ms : PM) : EM := fun en st => mb (mPairs ms en (st ++ [.dct [] []])) fun ps st' => match keysD ps.1 with
  | some ks => if distinct ks = true ∧ ks.length = ps.2.length ∧ isE st'[st.length]? = true then .ok (.dct ks ps.2) (st'.set st.length .dead) else .bad
  | none => .bad
def mDispC (ms : PM) : EM := fun en st => mb (mPairs ms en (st ++ [.dct [] []])) fun ps st' => match keysD ps.1 with
  | some ks => if distinct ks = true ∧ ks.length = ps.2.length ∧ isE st'[st.length]? = true then .ok (.cell st.length) (st'.set st.length (.dct ks ps.2)) else .bad
  | none => .bad
theorem mPairs_len {en : En} : ∀ {ms : PM} {st st' : Sto} {ps : List D × List D}, mPairs ms en st = .ok ps st' → ps.1.length = ms.length
  | [], _, _, _, h => by cases h; rfl
  | (mk, mv) :: r, st, st', ps, h => by
    have h : mb (mk en st) (fun k st => mb (mv en st) fun v st => mb (mPairs r en st) fun ps st => .ok (k :: ps.1, v :: ps.2) st) = .ok ps st' := h
    cases e1 : mk en st with
    | ok k st1 =>
      rw [e1] at h
      have h : mb (mv en st1) (fun v st => mb (mPairs r en st) fun ps st => .ok (k :: ps.1, v :: ps.2) st) = .ok ps st' := h
      cases e2 : mv en st1 with
      | ok v st2 =>
        rw [e2] at h
        have h : mb (mPairs r en st2) (fun ps st => .ok (k :: ps.1, v :: ps.2) st) = .ok ps st' := h
        cases e3 : mPairs r en st2 with
        | ok q st3 =>
          rw [e3] at h
          cases h
          rw [List.length_cons, List.length_cons, mPairs_len e3]
        | err => rw [e3] at h; cases h
        | bad => rw [e3] at h; cases h
      | err => rw [e2] at h; cases h
      | bad => rw [e2] at h; cases h
    | err => rw [e1] at h; cases h
    | bad => rw [e1] at h; cases h
theorem PDP.len : ∀ {ks : List (Option Expr)} {vs : List Expr} {ms : PM}, PDP X Wx ks vs ms → ks.length = ms.length
  | _, _, _, .nil => rfl
  | _, _, _, .cons _ _ hr => by rw [List.length_cons, List.length_cons, PDP.len hr]
theorem cel_st (W : Wd) (p : Addr) (o : HO) (c : Cel) : (W.cel p o c).st = W.st ++ [c] := rfl
theorem disp_of {C : Cn} {ms : PM} {W : Wd} {σ : St} {en : En} {Q : VK} (ok : WOk C W) (er : EnvR C W σ en) {f : List D × List D → Sto → Out D} (q : PostE C Wx W σ Q (mb (mPairs ms en (W.st ++ [.dct [] []])) f))
    (fin : ∀ W2 ps us vs p, p ∉ W2.hid → ps.1.length = ms.length → WOk C W2 → Ext W W2 → W2.A[W.st.length]? = some p → RepL C W2 ps.1 us → RepL C W2 ps.2 vs → PostE C Wx W2 σ Q (f ps W2.st) → W2.H p = some (.dK []) → W2.st[W.st.length]? = some (.dct [] []) →
      ∃ kvs : List (Key × V), us.zip vs = kvs.map (fun kv => (kV kv.1, kv.2)) ∧ kvs.length ≤ 15 ∧ Q (.ref p) (upd W2.H p (.dK (mergeK [] kvs))))
    (nob : ∀ ps st, st[W.st.length]? ≠ some (.dct [] []) → f ps st = .bad) :
    tDisp (trsOf C Wx ms) σ W.H Q := by
  intro p hp
  have okc : WOk C (W.cel p (.dK []) (.dct [] [])) := cel_dct_ok (ks := []) (ds := []) (xs := []) ok hp rfl .nil
  have exc := cel_ext ok hp (.dK []) (.dct [] [])
  have hA : (W.cel p (.dK []) (.dct [] [])).A[W.st.length]? = some p := by
    show (W.A ++ [p])[W.st.length]? = some p
    rw [← ok.len]; simp
  refine pairs_of (W := W.cel p (.dK []) (.dct [] [])) (en := en) okc (er.ext exc) ?_
  rw [cel_st]
  cases e : mPairs ms en (W.st ++ [.dct [] []]) with
  | bad => rw [e] at q; exact q
  | err x st => rw [e] at q; exact fun W' cls dd h1 h2 h3 => q W' cls dd h1 h2 (exc.trans h3)
  | ok ps st =>
    rw [e] at q
    intro W2 us vs h1 h2 h3 h4 h5
    subst h1
    have ex2 := exc.trans h3
    have q2 : PostE C Wx W2 σ Q (f ps W2.st) := PostE.ext q ex2
    have hA2 : W2.A[W.st.length]? = some p := pre_get h3.pre hA
    by_cases c : W2.st[W.st.length]? = some (.dct [] [])
    · obtain ⟨xs, hx, hl, hr⟩ := h2.at_ _ _ _ hA2 c
      obtain rfl := hr.nil_inv
      exact ⟨hx, fin W2 ps us vs p (fun z => ok.hidT p (by rw [ex2.hid] at z; exact z) hp) (mPairs_len e) h2 ex2 hA2 h4 h5 q2 hx c⟩
    · rw [nob ps W2.st c] at q2; exact q2.elim
theorem pd_disp {keys : List (Option Expr)} {values : List Expr} {ms : PM} (h : PDP X Wx keys values ms) (h0 : keys ≠ [] := by exact List.cons_ne_nil _ _) (h15 : keys.length ≤ 15 := by decide) : PD X Wx (.Dict keys values pos) (mDisp ms) :=
  ⟨PE.weak (pe_disp h.pps h.all.1 h.all.2 h0 h15) fun σ H Q ⟨W, en, e, ok, er, q⟩ => by
    subst e
    refine disp_of ok er q (fun W2 ps us vs p hid hms ok2 ex2 hA r1 r2 q2 hH hc => ?_) (fun ps st hn => ?_)
    · cases ek : keysD ps.1 with
      | none => simp only [ek] at q2; exact q2.elim
      | some ks =>
        simp only [ek] at q2
        by_cases c : distinct ks = true ∧ ks.length = ps.2.length ∧ isE W2.st[W.st.length]? = true
        · rw [if_pos c] at q2
          have hu := keysD_v r1 ek
          subst hu
          have hl : ks.length ≤ 15 := by rw [← keysD_len ek, hms, ← h.len]; exact h15
          have hlen : ks.length = vs.length := c.2.1.trans r2.length
          refine ⟨ks.zip vs, zip_map_kV ks vs, by rw [List.length_zip]; omega, ?_⟩
          rw [merge_nil hlen c.1]
          have ep := put_ext ok2 hA hc (by intro h; cases h) (.dK (ks.zip vs)) .dead
          have op : WOk (cn X) (W2.put W.st.length p (.dK (ks.zip vs)) .dead) := put_ok ok2 hA hc (by intro h; cases h) fun W' _ hH' => by
            show W'.H p ≠ none
            rw [hH', upd_same]; exact nofun
          refine q2 (W2.put W.st.length p (.dK (ks.zip vs)) .dead) _ rfl op ep ?_
          unfold Rep
          refine ⟨p, vs, rfl, upd_same, fun z => ?_, hlen, r2.ext ep⟩
          rcases z with ⟨n, cc, z1, z2, z3⟩ | z
          · have z1 : W2.A[n]? = some p := z1
            have z2 : (W2.st.set W.st.length .dead)[n]? = some cc := z2
            have hn : n = W.st.length := by
              have a1 := (List.getElem?_eq_some_iff.mp z1).1
              have a2 := (List.getElem?_eq_some_iff.mp hA).1
              exact (List.getElem_inj (h₀ := a1) (h₁ := a2) ok2.nd).mp ((List.getElem?_eq_some_iff.mp z1).2.trans (List.getElem?_eq_some_iff.mp hA).2.symm)
            subst hn
            rw [List.getElem?_set_self (List.getElem?_eq_some_iff.mp hc).1] at z2
            cases z2
            exact z3 rfl
          · exact hid z
        · rw [if_neg c] at q2; exact q2.elim
    · cases ek : keysD ps.1 with
      | none => rfl
      | some ks => exact if_neg fun z => hn (isE_eq z.2.2)⟩
theorem pd_dispC {keys : List (Option Expr)} {values : List Expr} {ms : PM} (h : PDP X Wx keys values ms) (h0 : keys ≠ [] := by exact List.cons_ne_nil _ _) (h15 : keys.length ≤ 15 := by decide) : PD X Wx (.Dict keys values pos) (mDispC ms) :=
  ⟨PE.weak (pe_disp h.pps h.all.1 h.all.2 h0 h15) fun σ H Q ⟨W, en, e, ok, er, q⟩ => by
    subst e
    refine disp_of ok er q (fun W2 ps us vs p hid hms ok2 ex2 hA r1 r2 q2 hH hc => ?_) (fun ps st hn => ?_)
    · cases ek : keysD ps.1 with
      | none => simp only [ek] at q2; exact q2.elim
      | some ks =>
        simp only [ek] at q2
        by_cases c : distinct ks = true ∧ ks.length = ps.2.length ∧ isE W2.st[W.st.length]? = true
        · rw [if_pos c] at q2
          have hu := keysD_v r1 ek
          subst hu
          have hl : ks.length ≤ 15 := by rw [← keysD_len ek, hms, ← h.len]; exact h15
          have hlen : ks.length = vs.length := c.2.1.trans r2.length
          refine ⟨ks.zip vs, zip_map_kV ks vs, by rw [List.length_zip]; omega, ?_⟩
          rw [merge_nil hlen c.1]
          have ep := put_ext ok2 hA hc (by intro h; cases h) (.dK (ks.zip vs)) (.dct ks ps.2)
          have op : WOk (cn X) (W2.put W.st.length p (.dK (ks.zip vs)) (.dct ks ps.2)) := put_dct_ok ok2 hA hc (by intro h; cases h) hlen r2
          refine q2 (W2.put W.st.length p (.dK (ks.zip vs)) (.dct ks ps.2)) _ rfl op ep ?_
          unfold Rep
          exact ⟨p, rfl, hA⟩
        · rw [if_neg c] at q2; exact q2.elim
    · cases ek : keysD ps.1 with
      | none => rfl
      | some ks => exact if_neg fun z => hn (isE_eq z.2.2)⟩
end
end Pd

namespace Pd
open PySem PySem.Spec L2
open PyProof.Rows hiding St
/-! ## a module's defs and constants -/
structure DA (K : PySem.W.Frag) (mg : Str → Option Value) (x : Str) (st : Stmt) (ps : List Str) (f : Addr) (fd : FuncData) : Prop where
  F : Fun K x x st f fd
  mg : mg x = some (.ref f)
  kp : PySem.W.keepIn K (.ref f) = true
  b : Binds K fd ps []
def GTup (K : PySem.W.Frag) (mg : Str → Option Value) (x : Str) (ds : List D) : Prop := ∃ a, mg x = some (.ref a) ∧ ∃ xs, KTup K a xs ∧ ∀ W, RepL ⟨K, mg⟩ W ds xs
section
variable {X : Cx} {Wx : WX} {pos : Pos}
theorem pd_gstrE {x z : Str} (hm : ∃ t, X.mg x = some (.str z t)) (hg : Gl X x := by rfl) (hd : (x == ("__debug__" : Str)) = false := by decide) : PD X Wx (.Name x pos) (mC (.str z)) := by
  obtain ⟨t, h⟩ := hm
  exact pd_gstr hg h hd
theorem pd_gintE {x : Str} {i : Int} (hm : ∃ t, X.mg x = some (.int i t)) (hg : Gl X x := by rfl) (hd : (x == ("__debug__" : Str)) = false := by decide) : PD X Wx (.Name x pos) (mC (.int i)) := by
  obtain ⟨t, h⟩ := hm
  exact pd_gint hg h hd
theorem pd_gtupE {x : Str} {ds : List D} (hm : GTup X.K X.mg x ds) (hg : Gl X x := by rfl) (hd : (x == ("__debug__" : Str)) = false := by decide) : PD X Wx (.Name x pos) (mC (.tup ds)) := by
  obtain ⟨a, h, hk⟩ := hm
  exact pd_gtup hg h hk hd
/-! ## for, over what comes -/
theorem PI.or {tg e : Expr} {t t' : TI} (h : PI X tg e t) (h' : PI X tg e t') : PI X tg e (fun σ H R => t σ H R ∨ t' σ H R) := ⟨fun pins s σ H R I q => by
  rcases q with q | q
  · exact h.run pins s σ H R I q
  · exact h'.run pins s σ H R I q⟩
def iAny (m : EM) : IM := fun en st => mb (m en st) fun d st => match d with | .lst ds => .ok ds st | .tup ds => .ok ds st | .str z => .ok (signs z) st | _ => .bad
theorem pdi_any {tg e : Expr} {m : EM} (h : PD X Wx e m) : PDI X Wx tg e (iAny m) := ⟨PI.weak (PI.or (PI.or (pdi_lst (tg := tg) h).pi (pdi_tup (tg := tg) h).pi) (pdi_str (tg := tg) h).pi) fun σ H R ⟨W, en, e, ok, er, q⟩ => by
  subst e
  have q : PostI (cn X) Wx W σ R (mb (m en W.st) fun d st => match d with | .lst ds => .ok ds st | .tup ds => .ok ds st | .str z => .ok (signs z) st | _ => .bad) := q
  cases em : m en W.st with
  | bad => rw [em] at q; exact q.elim
  | err x st =>
    rw [em] at q
    refine .inl (.inl ⟨W, en, rfl, ok, er, ?_⟩)
    show PostI (cn X) Wx W σ R (mb (m en W.st) _)
    rw [em]; exact q
  | ok d st =>
    rw [em] at q
    cases d with
    | lst ds =>
      refine .inl (.inl ⟨W, en, rfl, ok, er, ?_⟩)
      show PostI (cn X) Wx W σ R (mb (m en W.st) _)
      rw [em]; exact q
    | tup ds =>
      refine .inl (.inr ⟨W, en, rfl, ok, er, ?_⟩)
      show PostI (cn X) Wx W σ R (mb (m en W.st) _)
      rw [em]; exact q
    | str ds =>
      refine .inr ⟨W, en, rfl, ok, er, ?_⟩
      show PostI (cn X) Wx W σ R (mb (m en W.st) _)
      rw [em]; exact q
    | _ => exact q.elim⟩
end
/-! ## levels -/
theorem FnG.zero {P : Program} {w : World} {K : PySem.W.Frag} {mg : Str → Option Value} {base : Heap} {k : Nat} {f : Addr} {fd : FuncData} {ps : List Str} : FnG P w K mg base k f fd ps (spD ⟨K, mg⟩ ps.length fun _ _ => .bad) :=
  ⟨fun vs H Q E ⟨W, ds, _, _, r, h, _⟩ => by rw [← r.length]; exact h, fun A outer s H args us vs Q E _ _ _ _ ⟨W, ds, _, _, _, _, q⟩ => q.elim⟩
theorem fun_da {K : PySem.W.Frag} {h : Heap} {mg : Str → Option Value} (X : K.In h) (G : h.Ns mainGlobals mg) {x : Str} {st : Stmt} {ps : List Str} {f : Addr} {oc : Value} {od an : Option Addr} {osl : Array (Option Value)} {kV doc pm cdv ct : Value}
    (a : PySem.W.nsIn K mainGlobals x = some (some (.ref f))) (l : K.lookup f = some ⟨oc, od, .func (PySem.W.fnOf x x (defArgs st) (defBody st) (defScope st) .none kV doc pm an cdv ct), osl⟩)
    (c : PySem.W.codeIn K cdv x = true) (k : PySem.W.keepIn K (.ref f) = true)
    (hb : ∀ (kV doc pm : Value) (an : Option Addr) (cdv ct : Value) (us : List Value), us.length = ps.length → bindArgs (PySem.W.fnOf x x (defArgs st) (defBody st) (defScope st) .none kV doc pm an cdv ct) ⟨us, []⟩ = pure (ps.zip us)) :
    DA K mg x st ps f (PySem.W.fnOf x x (defArgs st) (defBody st) (defScope st) .none kV doc pm an cdv ct) :=
  ⟨fun_mk l c k, PySem.W.mg_of X G a, k, (fun_mk l c k).binds hb⟩
theorem gtup_mk {K : PySem.W.Frag} {h : Heap} {mg : Str → Option Value} (X : K.In h) (G : h.Ns mainGlobals mg) {x : Str} {a : Addr} {od : Option Addr} {its : Array Value} {n : Nat} {osl : Array (Option Value)} {ds : List D} {xs : List V}
    (h1 : PySem.W.nsIn K mainGlobals x = some (some (.ref a))) (l : K.lookup a = some ⟨.type "tuple", od, .seq its n, osl⟩) (hz : its.size ≤ sizeLine) (hv : Vals xs its.toList) (hr : ∀ W, RepL ⟨K, mg⟩ W ds xs) : GTup K mg x ds :=
  ⟨a, PySem.W.mg_of X G h1, xs, ⟨_, its, n, l, rfl, rfl, hz, hv⟩, hr⟩
theorem strs_vals : ∀ {xs : List Str} {ts : List Tok}, xs.length = ts.length → Vals (xs.map V.str) ((xs.zip ts).map fun p => Value.str p.1 p.2)
  | [], _, _ => .nil
  | _ :: _, [], h => by cases h
  | x :: xs, t :: ts, h => .cons ⟨t, rfl⟩ (strs_vals (by simpa using h))
end Pd

namespace Pd
open PySem PySem.Spec L2
open PyProof.Rows hiding St
/-! ## one token is out (str.replace of written texts) -/
structure PDX (X : Cx) (Wx : WX) (e : Expr) (m : EM) : Prop where
  pe : PET X e (tD (cn X) Wx m)
structure PDAX (X : Cx) (Wx : WX) (es : List Expr) (m : LM) : Prop where
  pa : PAT X es (tDL (cn X) Wx m)
structure PDSX (X : Cx) (Wx : WX) (st : Stmt) (m : SM) : Prop where
  ps : PST X st (tDS (cn X) Wx m)
structure PDSsX (X : Cx) (Wx : WX) (st : List Stmt) (m : SM) : Prop where
  ps : PSsT X st (tDS (cn X) Wx m)
section
variable {X : Cx} {Wx : WX} {pos : Pos} {e a b : Expr} {es : List Expr} {m ma mb' : EM} {lm : LM} {st : Stmt} {rest : List Stmt} {sm sn : SM}
theorem PD.x (h : PD X Wx e m) : PDX X Wx e m := ⟨fun pins s σ H Q _ I q => h.pe.run pins s σ H Q I q⟩
theorem PDS.x (h : PDS X Wx st sm) : PDSX X Wx st sm := ⟨PST.of h.ps⟩
theorem PDSs.x (h : PDSs X Wx rest sm) : PDSsX X Wx rest sm := ⟨PSsT.of h.ps⟩
theorem PET.weak {t t' : TE} (h : PET X e t) (f : ∀ σ H Q, t' σ H Q → t σ H Q) : PET X e t' := fun pins s σ H Q h0 I q => h pins s σ H Q h0 I (f σ H Q q)
theorem PAT.weak {t t' : TA} (h : PAT X es t) (f : ∀ σ H Q, t' σ H Q → t σ H Q) : PAT X es t' := fun pos pins s σ H Q h0 I q => h pos pins s σ H Q h0 I (f σ H Q q)
def mRepl (y z : Str) (m : EM) : EM := fun en st => mb (m en st) fun d st => match d with | .str x => if x.length + (x.length + 1) * z.length ≤ 16777216 then .ok (.str (Txt.replace x y z)) st else .bad | _ => .bad
theorem pdx_repl {o : Expr} {y z : Str} {j k : Nat} {c0 c1 apos : Pos} (h : PD X Wx o m) (hyz : (y == z) = false := by decide)
    (hst : starEach [.Constant (.str y) j c0, .Constant (.str z) k c1] X.env = [(false, eval (.Constant (.str y) j c0) X.env), (false, eval (.Constant (.str z) k c1) X.env)] := by rfl)
    (hbase : attributeBase o "replace" X.env (eval o X.env) = eval o X.env := by rfl) (hline : (apos.endLine == pos.line) = true := by rfl) :
    PDX X Wx (.Call (.Attribute o "replace" apos) [.Constant (.str y) j c0, .Constant (.str z) k c1] [] pos) (mRepl y z m) :=
  ⟨PET.weak (CwR.pet_replC h.pe hyz hst hbase hline) fun σ H Q ⟨W, en, e, ok, er, q⟩ => by
    subst e
    refine seqE ok er q fun d W1 v ok1 e1 er1 r1 q1 => ?_
    cases d with
    | str x =>
      have q1 : PostE (cn X) Wx W1 σ Q (if x.length + (x.length + 1) * z.length ≤ 16777216 then .ok (.str (Txt.replace x y z)) W1.st else .bad) := q1
      by_cases c : x.length + (x.length + 1) * z.length ≤ 16777216
      · rw [if_pos c] at q1
        exact ⟨x, r1.str_inv, c, q1 W1 _ rfl ok1 (Ext.refl _) (.str _)⟩
      · rw [if_neg c] at q1; exact q1.elim
    | _ => exact q1.elim⟩
theorem pdax_nil : PDAX X Wx [] lNil := ⟨fun pos pins s σ H Q _ I q => pda_nil.pa.run pos pins s σ H Q I q⟩
theorem pdax_cons (h : PDAX X Wx es lm) (he : PDX X Wx e m) (hs : starEach (e :: es) X.env = (false, eval e X.env) :: starEach es X.env := by rfl) : PDAX X Wx (e :: es) (lCons m lm) :=
  ⟨PAT.weak (pat_cons he.pe h.pa hs) fun σ H Q ⟨W, en, e, ok, er, q⟩ => by
    subst e
    refine seqL ok er q fun d W1 v ok1 e1 er1 r1 q1 => ?_
    refine seqLL ok1 er1 q1 fun ds W2 vs ok2 e2 er2 r2 q2 => ?_
    exact q2 W2 _ rfl ok2 (Ext.refl _) (.cons (r1.ext e2) r2)⟩
theorem pdx_lst (h : PDAX X Wx es lm) : PDX X Wx (.List es pos) (mLst lm) := ⟨PET.weak (pet_lst h.pa) fun σ H Q ⟨W, en, e, ok, er, q⟩ => by
  subst e
  refine seqLE ok er q fun ds W1 vs ok1 e1 er1 r1 q1 => ?_
  by_cases hl : small ds.length = true
  · rw [if_pos hl] at q1
    refine ⟨by rw [← r1.length]; exact small_iff.mp hl, fun p hp => ?_⟩
    exact q1 (W1.lay p (.lst vs)) _ rfl (lay_ok ok1 hp _) (lay_ext ok1 hp _) (lay_lst ok1 hp r1)
  · rw [if_neg hl] at q1; exact q1.elim⟩
theorem pet_op {op : Operator} {r : R2} {ta tb : TE} (ho : OpR X (binaryOp op) r) (ha : PE X a ta) (hb : PET X b tb) : PET X (.BinOp a op b pos) (tOp r ta tb) := by
  intro pins s σ H Q h0 I h
  refine wpAny_BinOp (wpAny_mono (PySem.wpAny_toks (ha.run pins s σ H _ I h)) (fun v s1 q => ?_) fun _ _ z => z.2)
  obtain ⟨hk, x, H1, I1, r1, q1⟩ := q
  exact thn (hb pins s1 σ H1 _ (Nat.le_trans h0 hk) I1 q1) fun u s2 ⟨y, H2, I2, r2, q2⟩ => ho pins s2 σ H2 x y v u Q I2 r1 r2 q2
theorem pdx_op {op : Operator} {g : D → D → Sto → Option D} (ho : OpD X (binaryOp op) g) (ha : PD X Wx a ma) (hb : PDX X Wx b mb') : PDX X Wx (.BinOp a op b pos) (mOp g ma mb') :=
  ⟨PET.weak (pet_op ho ha.pe hb.pe) fun _ _ _ h => tOp_of (fun _ _ _ _ q => q) h⟩
theorem pdx_catC (ha : PD X Wx a ma) (hb : PDX X Wx b mb') : PDX X Wx (.BinOp a .Add b pos) (mOpC catD ma mb') :=
  ⟨PET.weak (pet_op op_cat ha.pe hb.pe) fun σ H Q ⟨W, en, e, ok, er, q⟩ => by
    subst e
    refine seqE ok er q fun x W1 v ok1 e1 er1 r1 q1 => ?_
    refine seqE ok1 er1 q1 fun y W2 u ok2 e2 er2 r2 q2 => ?_
    unfold catD at q2
    have r1 := r1.ext e2
    cases ex : deref W2.st x with
    | lst xs =>
      cases ey : deref W2.st y with
      | lst ys =>
        rw [ex, ey] at q2
        have q2 : PostE (cn X) Wx W2 σ Q (match (if small (xs.length + ys.length) = true then some (D.lst (xs ++ ys)) else none) with | some (.lst ds) => .ok (.cell W2.st.length) (W2.st ++ [.lst ds]) | _ => .bad) := q2
        by_cases c : small (xs.length + ys.length) = true
        · rw [if_pos c] at q2
          obtain ⟨p1, vs, rfl, z1, h1⟩ := lists_of ok2 r1 ex
          obtain ⟨p2, us, rfl, z2, h2⟩ := lists_of ok2 r2 ey
          refine ⟨p1, p2, vs, us, rfl, rfl, h1, h2, by rw [← z1.length, ← z2.length]; exact small_iff.mp c, fun p hp => ?_⟩
          exact q2 (W2.cel p (.lst (vs ++ us)) (.lst (xs ++ ys))) _ rfl (cel_lst_ok ok2 hp (z1.append z2)) (cel_ext ok2 hp _ _) (cel_rep ok2)
        · rw [if_neg c] at q2; exact q2.elim
      | _ => rw [ex, ey] at q2; exact q2.elim
    | _ => rw [ex] at q2; exact q2.elim⟩
theorem pdsx_set {i : Nat} {x : Str} {pos' : Pos} (he : PDX X Wx e m) (hN : X.N.Nodup) (hi : X.N[i]? = some x := by rfl) (hx : Loc X.env.scope x := by first | exact Or.inl rfl | exact Or.inr rfl) (hs : swapsWith e (some (.Name x pos')) pos.line X.env = pure false := by rfl)
    (hf : X.fn x = true ∨ X.env.scope.names.lookup x = some .local := by first | exact .inl rfl | exact .inr rfl) : PDSX X Wx (.Assign [.Name x pos'] e pos) (sSet i m) :=
  ⟨fun pins s σ H Dn h0 I ⟨W, en, e, ok, er, q⟩ => by
    subst e
    refine wpAny_Assign_Name (thn (he.pe pins s σ W.H (fun y H1 => Dn.nx (σ.set i (some y)) H1) h0 I ?_) fun v s1 ⟨y, H1, I1, r1, q1⟩ => ?_) hs
    · exact seqS ok er q fun d W1 v ok1 e1 er1 r1 q1 => q1 W1 _ rfl ok1 (Ext.refl _) (er1.set i r1)
    · exact store_ok I1 hN hi hx r1 (fun s2 I2 => ⟨_, H1, I2, q1⟩) hf⟩
theorem pdsx_cons (h1 : PDSX X Wx st sm) (h2 : PDSsX X Wx rest sn) : PDSsX X Wx (st :: rest) (sSeq sm sn) :=
  ⟨fun pins s σ H Dn h0 I h => psst_cons h1.ps h2.ps pins s σ H Dn h0 I (tDS_seq (t := fun _ _ _ => True) h)⟩
theorem pdsx_one (h1 : PDSX X Wx st sm) : PDSsX X Wx [st] sm :=
  ⟨fun pins s σ H Dn h0 I h => by
    refine wpAny_execs_cons (wpAny_mono (h1.ps pins s σ H Dn h0 I h) (fun f s1 q => ?_) fun _ _ x => x)
    cases f with
    | next =>
      obtain ⟨σ', H', I', q⟩ := q
      exact wpAny_execs_nil ⟨σ', H', I', q⟩
    | ret v => exact q
    | brk => exact q
    | cont => exact q⟩
/-- name = ["..", ..]: behind it a token is out -/
theorem pds_tok {i : Nat} {x c : Str} {j : Nat} {cpos pos' pos2 : Pos} (h : PDA X Wx es lm) (h2 : PDSsX X Wx rest sn) (hN : X.N.Nodup) (hi : X.N[i]? = some x := by rfl) (hx : Loc X.env.scope x := by first | exact Or.inl rfl | exact Or.inr rfl) (hs : swapsWith (.List (.Constant (.str c) j cpos :: es) pos2) (some (.Name x pos')) pos.line X.env = pure false := by rfl)
    (hf : X.fn x = true ∨ X.env.scope.names.lookup x = some .local := by first | exact .inl rfl | exact .inr rfl) :
    PDSs X Wx (.Assign [.Name x pos'] (.List (.Constant (.str c) j cpos :: es) pos2) pos :: rest) (sSeq (sSet i (mLst (lCons (mC (.str c)) lm))) sn) := by
  refine ⟨⟨fun pins s σ H Dn I h0 => ?_⟩⟩
  have h1 := tDS_seq (t := fun _ _ _ => True) h0
  obtain ⟨W, en, e, ok, er, q⟩ := h1
  subst e
  have q : PostS (cn X) Wx W { Dn with nx := tDS (cn X) Wx sn Dn } (smb (mb (lCons (mC (.str c)) lm en W.st) fun ds st => if small ds.length then .ok (.lst ds) st else .bad) en fun d st => .nx (en.set i (some d)) st) := q
  have rd : tDL (cn X) Wx lm σ W.H fun xs H2 => (xs.length + 1 ≤ sizeLine ∧ ∀ p, H2 p = none → tDS (cn X) Wx sn Dn (σ.set i (some (.ref p))) (upd H2 p (.lst (.str c :: xs)))) := by
    refine ⟨W, en, rfl, ok, er, ?_⟩
    have e1 : lCons (mC (.str c)) lm en W.st = mb (lm en W.st) fun ds st => .ok (.str c :: ds) st := rfl
    rw [e1] at q
    cases hl : lm en W.st with
    | bad => rw [hl] at q; exact q.elim
    | err y st => rw [hl] at q; exact fun W' cls dd h1 h2 h3 h4 => q W' σ cls dd h1 h2 h3 (er.ext h3) h4
    | ok ds st =>
      rw [hl] at q
      intro W2 vs hst ok2 e2 r2
      subst hst
      have q : PostS (cn X) Wx W { Dn with nx := tDS (cn X) Wx sn Dn } (smb (if small (D.str c :: ds).length = true then .ok (.lst (.str c :: ds)) W2.st else .bad) en fun d st => .nx (en.set i (some d)) st) := q
      by_cases hz : small (D.str c :: ds).length = true
      · rw [if_pos hz] at q
        have hz' := small_iff.mp hz
        rw [List.length_cons] at hz'
        refine ⟨by rw [← r2.length]; exact hz', fun p hp => ?_⟩
        have e3 := lay_ext ok2 hp (.lst (.str c :: vs))
        exact q (W2.lay p (.lst (.str c :: vs))) _ rfl (lay_ok ok2 hp _) (e2.trans e3) (((er.ext e2).ext e3).set i (lay_lst ok2 hp (.cons (.str c) r2)))
      · rw [if_neg hz] at q; exact q.elim
  refine wpAny_execs_cons (wpAny_Assign_Name ?_ hs)
  refine wpAny_List_spliced ?_
  show wpAny _ _ (spliced ((false, eval (.Constant (.str c) j cpos) X.env) :: backTo pos2 (starEach es X.env))) _ _ s
  refine Calls.spliced_cons (Calls.Constant_str ?_)
  refine wpAny_mono (PySem.wpAny_toks (h.pa.run pos2 pins { s with toks := s.toks + 1 } σ W.H _ (I.tok _) rd)) (fun us s1 q1 => ?_) fun _ _ z => z.2
  obtain ⟨hk, xs, H1, I1, r, z, q1⟩ := q1
  refine ⟨by rw [List.length_cons, ← r.length]; exact z, ?_⟩
  have hfr : H1 s1.heap.objs.size = none := I1.hok.fresh (Nat.le_refl _)
  have I2 : Inv X pins σ (upd H1 s1.heap.objs.size (.lst (.str c :: xs))) _ := I1.laid (t' := s1.toks) (fun b u e => Heap.get?_push_of_some _ e) (Nat.le_refl _) ⟨z, Value.str c s.toks :: us, 0, .cons ⟨_, rfl⟩ r, Heap.get?_push_size _ rfl⟩
  refine wpAny_mono (PySem.wpAny_toks (store_ok (v := V.ref s1.heap.objs.size) (Q := fun _ s2 => Inv X pins (σ.set i (some (V.ref s1.heap.objs.size))) (upd H1 s1.heap.objs.size (.lst (.str c :: xs))) s2) I2 hN hi hx rfl (fun _ I3 => I3) hf)) (fun _ s2 q2 => ?_) fun _ _ z => z.2
  have hk1 : s.toks + 1 ≤ s1.toks := hk
  have hk2 : s1.toks ≤ s2.toks := q2.1
  exact h2.ps pins s2 _ _ Dn (by omega) q2.2 (q1 _ hfr)
end
theorem blkc_of {X : Cx} {N : List Str} {sc scope : Scope} {own : List (Str × Nat)} (h1 : X.N = N) (h2 : X.env.scope = sc) (h : blkC N sc scope own = true) : blkC X.N X.env.scope scope own = true := by
  rw [h1, h2]; exact h
theorem law_sp {K : PySem.W.Frag} {mg : Str → Option Value} {H : Hp} {a : Addr} {ns : List Int} {F : FM} (hS : SqL K H a (ns.map V.int)) (h : ∃ st, F [.scr ns] [] = .ok (.bl true) st) :
    spD ⟨K, mg⟩ 1 F [.ref a] H (fun v _ => v = .bl true) fun _ _ _ => False := by
  obtain ⟨st, h⟩ := h
  refine ⟨⟨H, [], [], []⟩, [.scr ns], rfl, ⟨rfl, List.nodup_nil, (fun n a c z => by simp at z), (fun a z => by simp at z)⟩, .cons ?_ .nil, rfl, ?_⟩
  · unfold Rep
    refine ⟨a, rfl, ?_⟩
    rcases hS with h | h
    · refine .inl ⟨h, fun z => ?_⟩
      rcases z with ⟨n, c, z, _⟩ | z
      · cases z
      · cases z
    · exact .inr h
  · rw [h]
    intro W' v _ _ _ r
    exact r.bl_inv
/-- the law's end: law(script) is True at every script -/
theorem walkF {l : PySem.W.OpenLaw} {k : Nat} {q : Program} {loose : List Str} {XP : (Str → Option Value) → Heap → Prop} {YP : World → Heap → Prop} {d : DefRec} {K : Params → PySem.W.Frag} {G : FM}
    (hn : l.most = some 63) (hdf : d.params.defaults = []) (hr : RG k callerA) (hY : ∀ (w : World) (h : Heap), YP w h → (K w.params).In h)
    (hl : ∀ ns : List Int, ns.length ≤ 63 → ∃ st, G [.scr ns] [] = .ok (.bl true) st)
    (F : ∀ (w : World) (mg : Str → Option Value) (fa : Addr) (h : Heap), (K w.params).In h → h.Ns mainGlobals mg → mg d.name = some (.ref fa) →
      ∃ fd : FuncData, (∀ (s : Shared) (u : Value), BindsTo s fd ⟨[u], []⟩ [("script", u)]) ∧ ∀ base : Heap, (K w.params).In base → base.Ns mainGlobals mg → FnG l.prog w (K w.params) mg base k fa fd ["script"] (spD ⟨K w.params, mg⟩ 1 G)) :
    PySem.W.WalkO q loose XP YP l.row.toRowW d [] (fun f vs => PySem.call f vs) :=
  walkG (x := "script") (sp := fun w mg => spD ⟨K w.params, mg⟩ 1 G) hn (by decide) hdf hr hY F fun w mg H a ns h1 _ h3 => law_sp h3 (hl ns h1)
end Pd

namespace Pd
open PySem PySem.Spec L2
open PyProof.Rows hiding St
/-! # what a denotation does, read from its form -/
abbrev ErP := Exn → Sto → Prop
def Ok {α : Type} (o : Out α) (P : α → Sto → Prop) (E : ErP) : Prop := match o with
  | .ok a st => P a st | .err e st => E e st | .bad => False
structure SPost where
  nx : En → Sto → Prop
  rt : D → Sto → Prop
  bk : En → Sto → Prop
  ct : En → Sto → Prop
  er : ErP
def Sk (o : SOut) (S : SPost) : Prop := match o with
  | .nx en st => S.nx en st | .rt d st => S.rt d st | .bk en st => S.bk en st | .ct en st => S.ct en st | .err e _ st => S.er e st | .bad => False
def NoE : ErP := fun _ _ => False
def Lk {α : Type} (o : Option α) (Q : α → Prop) : Prop := match o with | some a => Q a | none => False
def BLk (d : D) (Q : Bool → Prop) : Prop := match d with | .bl k => Q k | _ => False
def Cnd (k : Bool) (A B : Prop) : Prop := (k = true → A) ∧ (k = false → B)
theorem Cnd.t {A B : Prop} (h : A) : Cnd true A B := ⟨fun _ => h, fun z => nomatch z⟩
theorem Cnd.f {A B : Prop} (h : B) : Cnd false A B := ⟨(fun z => nomatch z), fun _ => h⟩
theorem Cnd.nt {A B : Prop} (h : B) : Cnd (!true) A B := .f h
theorem Cnd.nf {A B : Prop} (h : A) : Cnd (!false) A B := .t h
theorem Cnd.of {k : Bool} {A B : Prop} (h1 : k = true → A) (h2 : k = false → B) : Cnd k A B := ⟨h1, h2⟩
theorem Cnd.yes {k : Bool} {A B : Prop} (h : k = true) (h1 : A) : Cnd k A B := by subst h; exact .t h1
theorem Cnd.no {k : Bool} {A B : Prop} (h : k = false) (h1 : B) : Cnd k A B := by subst h; exact .f h1
section
variable {α β : Type} {E : ErP} {st : Sto} {en : En}
theorem Ok.mono {o : Out α} {P P' : α → Sto → Prop} {E' : ErP} (h : Ok o P E) (f : ∀ a st, P a st → P' a st) (g : ∀ e st, E e st → E' e st) : Ok o P' E' := by
  cases o with
  | ok a st => exact f _ _ h
  | err e st => exact g _ _ h
  | bad => exact h
theorem Ok.to {o : Out α} {P P' : α → Sto → Prop} (h : Ok o P E) (f : ∀ a st, P a st → P' a st) : Ok o P' E := h.mono f fun _ _ z => z
theorem Ok.toN {o : Out α} {P P' : α → Sto → Prop} (h : Ok o P NoE) (f : ∀ a st, P a st → P' a st) : Ok o P' E := h.mono f fun _ _ z => z.elim
theorem Ok.eq {o : Out α} {P : α → Sto → Prop} (h : Ok o P NoE) : ∃ a st, o = .ok a st ∧ P a st := by
  cases o with
  | ok a st => exact ⟨a, st, rfl, h⟩
  | err e st => exact h.elim
  | bad => exact h.elim
theorem ok_of {o : Out α} {a : α} {st : Sto} {P : α → Sto → Prop} (e : o = .ok a st) (h : P a st) : Ok o P E := by rw [e]; exact h
theorem ok_mb {o : Out α} {f : α → Sto → Out β} {P : β → Sto → Prop} (h : Ok o (fun a st => Ok (f a st) P E) E) : Ok (mb o f) P E := by
  cases o with
  | ok a st => exact h
  | err e st => exact h
  | bad => exact h
theorem ok_lift {o : Option α} {P : α → Sto → Prop} (h : Lk o fun a => P a st) : Ok (lift o st) P E := by
  cases o with
  | some a => exact h
  | none => exact h
theorem sk_smb {o : Out α} {f : α → Sto → SOut} {S : SPost} (h : Ok o (fun a st => Sk (f a st) S) S.er) : Sk (smb o en f) S := by
  cases o with
  | ok a st => exact h
  | err e st => exact h
  | bad => exact h
theorem ok_if {c : Bool} {x y : Out α} {P : α → Sto → Prop} (h : Cnd c (Ok x P E) (Ok y P E)) : Ok (if c = true then x else y) P E := by
  cases c with
  | true => exact h.1 rfl
  | false => exact h.2 rfl
theorem sk_if {c : Bool} {x y : SOut} {S : SPost} (h : Cnd c (Sk x S) (Sk y S)) : Sk (if c = true then x else y) S := by
  cases c with
  | true => exact h.1 rfl
  | false => exact h.2 rfl
theorem ok_asB {d : D} {P : Bool → Sto → Prop} (h : BLk d fun k => P k st) : Ok (lift (asB d) st) P E := by
  cases d with
  | bl k => exact h
  | _ => exact h.elim
/-! ## expressions -/
section
variable {P : D → Sto → Prop} {m ma mb' mc : EM} {lm : LM} {t u : TM}
theorem ok_var {i : Nat} {d : D} (e : en[i]? = some (some d)) (h : P d st) : Ok (mVar i en st) P E := by
  unfold mVar; rw [e]; exact h
theorem ok_c {d : D} (h : P d st) : Ok (mC d en st) P E := h
theorem ok_nil {P : List D → Sto → Prop} (h : P [] st) : Ok (lNil en st) P E := h
theorem ok_cons {P : List D → Sto → Prop} (h : Ok (m en st) (fun d st => Ok (lm en st) (fun ds st => P (d :: ds) st) E) E) : Ok (lCons m lm en st) P E := ok_mb (h.to fun d st h => ok_mb (h.to fun _ _ h => h))
theorem ok_tup (h : Ok (lm en st) (fun ds st => ds.length ≤ sizeLine ∧ P (.tup ds) st) E) : Ok (mTup lm en st) P E := ok_mb (h.to fun ds st h => by
  show Ok (if small ds.length = true then _ else _) _ _
  rw [if_pos (small_iff.mpr h.1)]; exact h.2)
theorem ok_lst (h : Ok (lm en st) (fun ds st => ds.length ≤ sizeLine ∧ P (.lst ds) st) E) : Ok (mLst lm en st) P E := ok_mb (h.to fun ds st h => by
  show Ok (if small ds.length = true then _ else _) _ _
  rw [if_pos (small_iff.mpr h.1)]; exact h.2)
theorem ok_lstC (h : Ok (lm en st) (fun ds st => ds.length ≤ sizeLine ∧ P (.cell st.length) (st ++ [.lst ds])) E) : Ok (mLstC lm en st) P E := ok_mb (h.to fun ds st h => by
  show Ok (if small ds.length = true then _ else _) _ _
  rw [if_pos (small_iff.mpr h.1)]; exact h.2)
theorem ok_op {g : D → D → Sto → Option D} (h : Ok (ma en st) (fun x st => Ok (mb' en st) (fun y st => Lk (g x y st) fun d => P d st) E) E) : Ok (mOp g ma mb' en st) P E :=
  ok_mb (h.to fun x st h => ok_mb (h.to fun y st h => ok_lift h))
theorem ok_opC {g : D → D → Sto → Option D} (h : Ok (ma en st) (fun x st => Ok (mb' en st) (fun y st => Lk (g x y st) fun d => ∃ ds, d = .lst ds ∧ P (.cell st.length) (st ++ [.lst ds])) E) E) : Ok (mOpC g ma mb' en st) P E :=
  ok_mb (h.to fun x st h => ok_mb (h.to fun y st h => by
    show Ok (match g x y st with | some (.lst ds) => Out.ok (.cell st.length) (st ++ [.lst ds]) | _ => .bad) P E
    cases e : g x y st with
    | none => rw [e] at h; exact h.elim
    | some d => rw [e] at h; obtain ⟨ds, rfl, h⟩ := h; exact h))
theorem ok_un {g : D → Sto → Option D} (h : Ok (m en st) (fun x st => Lk (g x st) fun d => P d st) E) : Ok (mUn g m en st) P E := ok_mb (h.to fun x st h => ok_lift h)
theorem ok_unC {g : D → Sto → Option D} (h : Ok (m en st) (fun x st => Lk (g x st) fun d => ∃ ds, d = .lst ds ∧ P (.cell st.length) (st ++ [.lst ds])) E) : Ok (mUnC g m en st) P E := ok_mb (h.to fun x st h => by
  show Ok (match g x st with | some (.lst ds) => Out.ok (.cell st.length) (st ++ [.lst ds]) | _ => .bad) P E
  cases e : g x st with
  | none => rw [e] at h; exact h.elim
  | some d => rw [e] at h; obtain ⟨ds, rfl, h⟩ := h; exact h)
theorem ok_neg (h : Ok (m en st) (fun d st => ∃ i, d = .int i ∧ P (.int (-i)) st) E) : Ok (mNeg m en st) P E := ok_mb (h.to fun d st h => by obtain ⟨i, rfl, h⟩ := h; exact h)
theorem ok_not (h : Ok (m en st) (fun d st => BLk d fun k => P (.bl (!k)) st) E) : Ok (mNot m en st) P E := ok_mb (h.to fun d st h => ok_mb (ok_asB h))
theorem ok_and (h : Ok (ma en st) (fun d st => BLk d fun k => Cnd k (Ok (mb' en st) P E) (P (.bl false) st)) E) : Ok (mAnd ma mb' en st) P E := ok_mb (h.to fun d st h => ok_mb (ok_asB (by
  cases d with
  | bl k => exact ok_if (show Cnd k (Ok (mb' en st) P E) (P (.bl false) st) from h)
  | _ => exact h.elim)))
theorem ok_or (h : Ok (ma en st) (fun d st => BLk d fun k => Cnd k (P (.bl true) st) (Ok (mb' en st) P E)) E) : Ok (mOr ma mb' en st) P E := ok_mb (h.to fun d st h => ok_mb (ok_asB (by
  cases d with
  | bl k => exact ok_if (show Cnd k (P (.bl true) st) (Ok (mb' en st) P E) from h)
  | _ => exact h.elim)))
theorem ok_chain {g g' : D → D → Sto → Option D} (h : Ok (ma en st) (fun x st => Ok (mb' en st) (fun y st => Lk (g x y st) fun z => BLk z fun k => Cnd k (Ok (mc en st) (fun z st => Lk (g' y z st) fun d => P d st) E) (P (.bl false) st)) E) E) : Ok (mChain g g' ma mb' mc en st) P E :=
  ok_mb (h.to fun x st h => ok_mb (h.to fun y st h => ok_mb (ok_lift (by
    cases e : g x y st with
    | none => rw [e] at h; exact h.elim
    | some z =>
      rw [e] at h
      refine ok_mb (ok_asB (?_ : BLk z _))
      cases z with
      | bl k =>
        refine ok_if (E := E) ?_
        exact ⟨fun hk => ok_mb ((h.1 hk).to fun z st h => ok_lift h), fun hk => h.2 hk⟩
      | _ => exact h.elim))))
theorem ok_ite (h : Ok (t en st) (fun k st => Cnd k (Ok (ma en st) P E) (Ok (mb' en st) P E)) E) : Ok (mIf t ma mb' en st) P E := ok_mb (h.to fun k st h => ok_if h)
def GLk (o : Option (D × Sto)) (Q : D → Sto → Prop) : Prop := match o with | some (d, st) => Q d st | none => False
theorem ok_lift2 {o : Option (D × Sto)} (h : GLk o P) : Ok (lift2 o) P E := by
  cases o with
  | none => exact h
  | some z => exact h
theorem ok_blt {g : GC} (h : Ok (lm en st) (fun ds st => GLk (g ds st) P) E) : Ok (mBlt g lm en st) P E := ok_mb (h.to fun ds st h => ok_lift2 h)
theorem ok_mt {T : String} {g : GM2} (h : Ok (m en st) (fun o st => tyM T st o = true ∧ Ok (lm en st) (fun ds st => GLk (g o ds st) P) E) E) : Ok (mMt T g m lm en st) P E := ok_mb (h.to fun o st h => by
  show Ok (if tyM T st o = true then _ else _) P E
  rw [if_pos h.1]
  exact ok_mb (h.2.to fun ds st h => ok_lift2 h))
theorem ok_call {G : FM} {n : Nat} (h : Ok (lm en st) (fun ds st => ds.length = n ∧ Ok (G ds st) P E) E) : Ok (mCall G n lm en st) P E := ok_mb (h.to fun ds st h => by
  show Ok (if ds.length = n then _ else _) P E
  rw [if_pos h.1]; exact h.2)
theorem ok_oNone {P : Option Int → Sto → Prop} (h : P none st) : Ok (oNone en st) P E := h
theorem ok_oSome {P : Option Int → Sto → Prop} (h : Ok (m en st) (fun d st => ∃ i, d = .int i ∧ P (some i) st) E) : Ok (oSome m en st) P E := ok_mb (h.to fun d st h => by obtain ⟨i, rfl, h⟩ := h; exact h)
theorem ok_sl {ml mh : OM} (h : Ok (m en st) (fun d st => Ok (ml en st) (fun l st => Ok (mh en st) (fun u st => Lk (slD d l u st) fun d => P d st) E) E) E) : Ok (mSl m ml mh en st) P E :=
  ok_mb (h.to fun d st h => ok_mb (h.to fun l st h => ok_mb (h.to fun u st h => ok_lift h)))
theorem ok_repl {y z : Str} (h : Ok (m en st) (fun d st => ∃ x, d = .str x ∧ x.length + (x.length + 1) * z.length ≤ 16777216 ∧ P (.str (Txt.replace x y z)) st) E) : Ok (mRepl y z m en st) P E := ok_mb (h.to fun d st h => by
  obtain ⟨x, rfl, c, h⟩ := h
  show Ok (if x.length + (x.length + 1) * z.length ≤ 16777216 then _ else _) P E
  rw [if_pos c]; exact h)
theorem ok_dnew (h : P (.dct [] []) st) : Ok (mDnew en st) P E := h
theorem ok_dnewC (h : P (.cell st.length) (st ++ [.dct [] []])) : Ok (mDnewC en st) P E := h
/-! ## tests -/
variable {PT : Bool → Sto → Prop}
theorem ok_B (h : Ok (m en st) (fun d st => BLk d fun k => PT k st) E) : Ok (mB m en st) PT E := ok_mb (h.to fun d st h => ok_asB h)
theorem ok_tAnd (h : Ok (t en st) (fun k st => Cnd k (Ok (u en st) PT E) (PT false st)) E) : Ok (tmAnd t u en st) PT E := ok_mb (h.to fun k st h => ok_if h)
theorem ok_tOr (h : Ok (t en st) (fun k st => Cnd k (PT true st) (Ok (u en st) PT E)) E) : Ok (tmOr t u en st) PT E := ok_mb (h.to fun k st h => ok_if h)
theorem ok_tNot (h : Ok (t en st) (fun k st => PT (!k) st) E) : Ok (tmNot t en st) PT E := ok_mb h
theorem ok_tYes (h : PT true st) : Ok (tmYes en st) PT E := h
/-! ## rows -/
variable {PI : List D → Sto → Prop}
def rowD : D → Option (List D)
  | .lst ds => some ds | .tup ds => some ds | .str z => some (signs z) | _ => none
theorem ok_iAny (h : Ok (m en st) (fun d st => Lk (rowD d) fun ds => PI ds st) E) : Ok (iAny m en st) PI E := ok_mb (h.to fun d st h => by
  cases d with
  | lst ds => exact h
  | tup ds => exact h
  | str z => exact h
  | _ => exact h.elim)
theorem ok_iRng1 (h : Ok (m en st) (fun d st => ∃ j, d = .int j ∧ -(2 ^ 62) ≤ j ∧ j < 2 ^ 62 ∧ PI (rng 0 j.toNat) st) E) : Ok (iRng1 m en st) PI E := ok_mb (h.to fun d st h => by
  obtain ⟨j, rfl, h1, h2, h⟩ := h
  show Ok (if -(2 ^ 62) ≤ j ∧ j < 2 ^ 62 then _ else _) PI E
  rw [if_pos ⟨h1, h2⟩]; exact h)
theorem ok_iRng2 (h : Ok (ma en st) (fun d st => Ok (mb' en st) (fun d' st => ∃ i j, d = .int i ∧ d' = .int j ∧ (-(2 ^ 62) ≤ i ∧ i < 2 ^ 62 ∧ -(2 ^ 62) ≤ j ∧ j < 2 ^ 62) ∧ PI (rng i (j - i).toNat) st) E) E) : Ok (iRng2 ma mb' en st) PI E := ok_mb (h.to fun d st h => ok_mb (h.to fun d' st h => by
  obtain ⟨i, j, rfl, rfl, h1, h⟩ := h
  show Ok (if -(2 ^ 62) ≤ i ∧ i < 2 ^ 62 ∧ -(2 ^ 62) ≤ j ∧ j < 2 ^ 62 then _ else _) PI E
  rw [if_pos h1]; exact h))
/-! ## comprehensions: by an invariant of what is made, what is left, the store -/
theorem ok_lcLoop {gm : GM} {tm : TM} {em : EM} {I : List D → List D → Sto → Prop} {PL : List D → Sto → Prop} (hend : ∀ acc st, I acc [] st → PL acc st)
    (hstep : ∀ d ds acc st, I acc (d :: ds) st → Lk (gm d en st) fun en' => Ok (tm en' st) (fun k st => Cnd k (Ok (em en' st) (fun d' st => acc.length < sizeLine ∧ I (acc ++ [d']) ds st) NoE) (I acc ds st)) NoE) :
    ∀ (ds acc : List D) (st : Sto), I acc ds st → Ok (lcLoop gm tm em en ds acc st) PL E
  | [], acc, st, h => hend acc st h
  | d :: ds, acc, st, h => by
    have s := hstep d ds acc st h
    rw [lcLoop_cons]
    cases e1 : gm d en st with
    | none => rw [e1] at s; exact s.elim
    | some en' =>
      rw [e1] at s
      have s : Ok (tm en' st) _ NoE := s
      obtain ⟨k, st1, e2, s⟩ := s.eq
      simp only [e2]
      cases k with
      | false => exact ok_lcLoop hend hstep ds acc st1 (s.2 rfl)
      | true =>
        obtain ⟨d', st2, e3, s⟩ := (s.1 rfl).eq
        simp only [e3]
        rw [if_pos s.1]
        exact ok_lcLoop hend hstep ds (acc ++ [d']) st2 s.2
theorem ok_lc {im : IM} {gm : GM} {tm : TM} {em : EM} {vs : List Nat} (h : Ok (im en st) (fun ds st => Ok (lcLoop gm tm em (wipeEn vs en) ds [] st) (fun acc st => P (.lst acc) st) E) E) : Ok (mLc im gm tm em vs en st) P E := ok_mb (h.to fun ds st h => ok_mb h)
theorem ok_lcC {im : IM} {gm : GM} {tm : TM} {em : EM} {vs : List Nat} (h : Ok (im en st) (fun ds st => Ok (lcLoop gm tm em (wipeEn vs en) ds [] st) (fun acc st => P (.cell st.length) (st ++ [.lst acc])) E) E) : Ok (mLcC im gm tm em vs en st) P E := ok_mb (h.to fun ds st h => ok_mb h)
end
/-! ## statements -/
section
variable {nx : En → Sto → Prop} {rt : D → Sto → Prop} {bk ct : En → Sto → Prop} {er : ErP} {m ma mb' : EM} {t : TM} {sm sn : SM}
theorem sk_nil (h : nx en st) : Sk (sNil en st) ⟨nx, rt, bk, ct, er⟩ := h
theorem sk_seq (h : Sk (sm en st) ⟨fun en st => Sk (sn en st) ⟨nx, rt, bk, ct, er⟩, rt, bk, ct, er⟩) : Sk (sSeq sm sn en st) ⟨nx, rt, bk, ct, er⟩ := by
  show Sk (match sm en st with | .nx en st => sn en st | o => o) ⟨nx, rt, bk, ct, er⟩
  cases e : sm en st <;> (rw [e] at h; exact h)
theorem Sk.mono {o : SOut} {S : SPost} {nx' : En → Sto → Prop} (h : Sk o S) (f : ∀ en st, S.nx en st → nx' en st) : Sk o ⟨nx', S.rt, S.bk, S.ct, S.er⟩ := by
  cases o with
  | nx en st => exact f _ _ h
  | _ => exact h
theorem sk_cut (J : En → Sto → Prop) (h : Sk (sm en st) ⟨J, rt, bk, ct, er⟩) (h2 : ∀ en st, J en st → Sk (sn en st) ⟨nx, rt, bk, ct, er⟩) : Sk (sSeq sm sn en st) ⟨nx, rt, bk, ct, er⟩ := sk_seq (h.mono h2)
theorem sk_ite (h : Ok (t en st) (fun k st => Cnd k (Sk (sm en st) ⟨nx, rt, bk, ct, er⟩) (Sk (sn en st) ⟨nx, rt, bk, ct, er⟩)) er) : Sk (sIf t sm sn en st) ⟨nx, rt, bk, ct, er⟩ := sk_smb (h.to fun k st h => sk_if h)
theorem sk_ret (h : Ok (m en st) rt er) : Sk (sRet m en st) ⟨nx, rt, bk, ct, er⟩ := sk_smb h
theorem sk_retN (h : rt .non st) : Sk (sRetN en st) ⟨nx, rt, bk, ct, er⟩ := h
theorem sk_expr (h : Ok (m en st) (fun _ st => nx en st) er) : Sk (sExpr m en st) ⟨nx, rt, bk, ct, er⟩ := sk_smb h
theorem sk_break (h : bk en st) : Sk (sBreak en st) ⟨nx, rt, bk, ct, er⟩ := h
theorem sk_cont (h : ct en st) : Sk (sCont en st) ⟨nx, rt, bk, ct, er⟩ := h
theorem sk_set {i : Nat} (h : Ok (m en st) (fun d st => nx (en.set i (some d)) st) er) : Sk (sSet i m en st) ⟨nx, rt, bk, ct, er⟩ := sk_smb h
theorem sk_par {i j : Nat} (h : Ok (ma en st) (fun d st => Ok (mb' en st) (fun d' st => nx ((en.set i (some d)).set j (some d')) st) er) er) : Sk (sPar i j ma mb' en st) ⟨nx, rt, bk, ct, er⟩ := sk_smb (h.to fun d st h => sk_smb h)
theorem sk_asg {g : GM} (h : Ok (m en st) (fun d st => Lk (g d en st) fun en => nx en st) er) : Sk (sAsg g m en st) ⟨nx, rt, bk, ct, er⟩ := sk_smb (h.to fun d st h => by
  show Sk (match g d en st with | some en' => .nx en' st | none => .bad) ⟨nx, rt, bk, ct, er⟩
  cases e : g d en st <;> (rw [e] at h; exact h))
theorem sk_aug {i : Nat} {g : D → D → Sto → Option D} {x : D} (e : en[i]? = some (some x)) (h : Ok (m en st) (fun y st => Lk (g x y st) fun z => nx (en.set i (some z)) st) er) : Sk (sAug i g m en st) ⟨nx, rt, bk, ct, er⟩ := by
  unfold sAug
  rw [e]
  exact sk_smb (h.to fun y st h => by
    cases e2 : g x y st <;> (rw [e2] at h; exact h))
theorem sk_setIx {mo mi : EM} (h : Ok (m en st) (fun d st => Ok (mo en st) (fun o st => Ok (mi en st) (fun i st => ∃ n k ds j, o = .cell n ∧ i = .int k ∧ st[n]? = some (.lst ds) ∧ ixN ds.length k = some j ∧ nx en (st.set n (.lst (ds.set j d)))) er) er) er) : Sk (sSetIx mo mi m en st) ⟨nx, rt, bk, ct, er⟩ :=
  sk_smb (h.to fun d st h => sk_smb (h.to fun o st h => sk_smb (h.to fun i st h => by
    obtain ⟨n, k, ds, j, rfl, rfl, h1, h2, h⟩ := h
    simp only [h1, h2]
    exact h)))
theorem sk_star {k : Nat} {gs : List GM} (h : Ok (m en st) (fun d st => ∃ ds, d = .tup ds ∧ k ≤ ds.length ∧ Lk (gmAll gs (ds.take k ++ [.lst (ds.drop k)]) en st) fun en => nx en st) er) : Sk (sStar k gs m en st) ⟨nx, rt, bk, ct, er⟩ := sk_smb (h.to fun d st h => by
  obtain ⟨ds, rfl, h1, h⟩ := h
  show Sk (if k ≤ ds.length then (match gmAll gs (ds.take k ++ [.lst (ds.drop k)]) en st with | some en' => .nx en' st | none => .bad) else .bad) ⟨nx, rt, bk, ct, er⟩
  rw [if_pos h1]
  cases e : gmAll gs (ds.take k ++ [.lst (ds.drop k)]) en st <;> (rw [e] at h; exact h))
theorem sk_forLoop {S : SPost} {g : GM} {body : SM} {I : List D → En → Sto → Prop} (hend : ∀ en st, I [] en st → S.nx en st)
    (hstep : ∀ d ds en st, I (d :: ds) en st → Lk (g d en st) fun en' => Sk (body en' st) ⟨I ds, S.rt, S.nx, I ds, S.er⟩) : ∀ (ds : List D) (en : En) (st : Sto), I ds en st → Sk (forLoop g body ds en st) S
  | [], en, st, h => hend en st h
  | d :: ds, en, st, h => by
    have s := hstep d ds en st h
    show Sk (match g d en st with | none => .bad | some en' => match body en' st with
      | .nx en'' st'' => forLoop g body ds en'' st''
      | .ct en'' st'' => forLoop g body ds en'' st''
      | .bk en'' st'' => .nx en'' st''
      | o => o) S
    cases e1 : g d en st with
    | none => rw [e1] at s; exact s.elim
    | some en' =>
      rw [e1] at s
      have s : Sk (body en' st) ⟨I ds, S.rt, S.nx, I ds, S.er⟩ := s
      show Sk (match body en' st with
        | .nx en'' st'' => forLoop g body ds en'' st''
        | .ct en'' st'' => forLoop g body ds en'' st''
        | .bk en'' st'' => .nx en'' st''
        | o => o) S
      cases e2 : body en' st with
      | nx en2 st2 => rw [e2] at s; exact sk_forLoop hend hstep ds en2 st2 s
      | ct en2 st2 => rw [e2] at s; exact sk_forLoop hend hstep ds en2 st2 s
      | bk en2 st2 => rw [e2] at s; exact s
      | rt d st2 => rw [e2] at s; exact s
      | err x en2 st2 => rw [e2] at s; exact s
      | bad => rw [e2] at s; exact s
theorem sk_for {im : IM} {g : GM} {body : SM} (h : Ok (im en st) (fun ds st => Sk (forLoop g body ds en st) ⟨nx, rt, bk, ct, er⟩) er) : Sk (sFor im g body en st) ⟨nx, rt, bk, ct, er⟩ := sk_smb h
theorem ok_fn {N : Nat} {body : SM} {ds : List D} {en : En} {P : D → Sto → Prop} (e : ds.map some ++ List.replicate (N - ds.length) none = en) (h : Sk (body en st) ⟨fun _ st => P .non st, P, fun _ _ => False, fun _ _ => False, E⟩) : Ok (fnM N body ds st) P E := by
  subst e
  unfold fnM
  cases e1 : body (ds.map some ++ List.replicate (N - ds.length) none) st <;> (rw [e1] at h; exact h)
end
/-! ## what the operations are on data of known kind -/
section
variable {Q : D → Prop}
theorem lk_add_int {i j : Int} (h : Q (.int (i + j))) : Lk (addD (.int i) (.int j) st) Q := h
theorem lk_add_str {x y : Str} (h1 : x.length + y.length ≤ sizeLine) (h : Q (.str (x ++ y))) : Lk (addD (.str x) (.str y) st) Q := by
  show Lk (if small (x.length + y.length) = true then some (D.str (x ++ y)) else none) Q
  rw [if_pos (small_iff.mpr h1)]; exact h
theorem lk_add_tup {x y : List D} (h1 : x.length + y.length ≤ sizeLine) (h : Q (.tup (x ++ y))) : Lk (addD (.tup x) (.tup y) st) Q := by
  show Lk (if small (x.length + y.length) = true then some (D.tup (x ++ y)) else none) Q
  rw [if_pos (small_iff.mpr h1)]; exact h
theorem lk_add_lst {x y : List D} (h1 : x.length + y.length ≤ sizeLine) (h : Q (.lst (x ++ y))) : Lk (addD (.lst x) (.lst y) st) Q := by
  show Lk (if small (x.length + y.length) = true then some (D.lst (x ++ y)) else none) Q
  rw [if_pos (small_iff.mpr h1)]; exact h
theorem lk_cat_lst {x y : List D} (h1 : x.length + y.length ≤ sizeLine) (h : Q (.lst (x ++ y))) : Lk (catD (.lst x) (.lst y) st) Q := by
  show Lk (if small (x.length + y.length) = true then some (D.lst (x ++ y)) else none) Q
  rw [if_pos (small_iff.mpr h1)]; exact h
theorem lk_sub_int {i j : Int} (h : Q (.int (i - j))) : Lk (subD (.int i) (.int j) st) Q := h
theorem lk_mul_int {i j : Int} (h1 : i.natAbs.log2 + j.natAbs.log2 < 1000000) (h : Q (.int (i * j))) : Lk (mulD (.int i) (.int j) st) Q := by
  show Lk (if i.natAbs.log2 + j.natAbs.log2 < 1000000 then some (D.int (i * j)) else none) Q
  rw [if_pos h1]; exact h
theorem log2_small {i : Int} (h1 : -(10 ^ 40) ≤ i) (h2 : i ≤ 10 ^ 40) : i.natAbs.log2 < 200 := by
  have h : i.natAbs < 2 ^ 200 := by
    have : (10 : Nat) ^ 40 < 2 ^ 200 := by decide
    omega
  by_cases z : i.natAbs = 0
  · rw [z]; decide
  · exact (Nat.log2_lt z).mpr h
theorem lk_mul_small {i j : Int} (h1 : -(10 ^ 40) ≤ i) (h2 : i ≤ 10 ^ 40) (h3 : -(10 ^ 40) ≤ j) (h4 : j ≤ 10 ^ 40) (h : Q (.int (i * j))) : Lk (mulD (.int i) (.int j) st) Q :=
  lk_mul_int (by have := log2_small h1 h2; have := log2_small h3 h4; omega) h
theorem lk_fdiv {i j : Int} (h0 : 0 < j) (h1 : j.natAbs.log2 < 9000) (h : Q (.int (i / j))) : Lk (fdivD (.int i) (.int j) st) Q := by
  show Lk (if 0 < j ∧ j.natAbs.log2 < 9000 then some (D.int (i / j)) else none) Q
  rw [if_pos ⟨h0, h1⟩]; exact h
theorem lk_mod {i j : Int} (h0 : 0 < j) (h : Q (.int (i % j))) : Lk (modD (.int i) (.int j) st) Q := by
  show Lk (if 0 < j then some (D.int (i % j)) else none) Q
  rw [if_pos h0]; exact h
theorem lk_pow {i j : Int} (h0 : 0 ≤ j ∧ j ≤ 1000000 ∧ i.natAbs < 2 ^ 64) (h : Q (.int (i ^ j.toNat))) : Lk (powD (.int i) (.int j) st) Q := by
  show Lk (if 0 ≤ j ∧ j ≤ 1000000 ∧ i.natAbs < 2 ^ 64 then some (D.int (i ^ j.toNat)) else none) Q
  rw [if_pos h0]; exact h
theorem lk_lt_int {i j : Int} (h : Q (.bl (decide (i < j)))) : Lk (ltD (.int i) (.int j) st) Q := h
theorem lk_le_int {i j : Int} (h : Q (.bl (decide (i ≤ j)))) : Lk (leD (.int i) (.int j) st) Q := h
theorem lk_gt_int {i j : Int} (h : Q (.bl (decide (j < i)))) : Lk (gtD (.int i) (.int j) st) Q := h
theorem lk_ge_int {i j : Int} (h : Q (.bl (decide (j ≤ i)))) : Lk (geD (.int i) (.int j) st) Q := h
theorem lk_le_str {x y : Str} (h : Q (.bl (!decide (y.cps.toList < x.cps.toList)))) : Lk (leD (.str x) (.str y) st) Q := h
theorem lk_some {α : Type} {o : Option α} {a : α} {Q : α → Prop} (e : o = some a) (h : Q a) : Lk o Q := by rw [e]; exact h
theorem blk_bl {k : Bool} {Q : Bool → Prop} (h : Q k) : BLk (.bl k) Q := h
theorem glk_some {o : Option (D × Sto)} {d : D} {st : Sto} {Q : D → Sto → Prop} (e : o = some (d, st)) (h : Q d st) : GLk o Q := by rw [e]; exact h
end
end
end Pd

namespace Pd
open PySem PySem.Spec L2
open PyProof.Rows hiding St
def iL (ns : List Int) : List D := ns.map .int
theorem iL_len (ns : List Int) : (iL ns).length = ns.length := List.length_map _
theorem intsD_iL : ∀ ns : List Int, intsD (iL ns) = some ns
  | [] => rfl
  | n :: ns => by
    show (intsD (iL ns)).map (n :: ·) = _
    rw [intsD_iL ns]; rfl
theorem cutD_hi (ds : List D) (n : Nat) : cutD ds none (some (n : Int)) = ds.take n := by
  unfold cutD
  rw [HT.sIx_none, HT.sIx_nat, List.drop_zero, Nat.sub_zero]
  rcases Nat.le_total n ds.length with h | h
  · rw [Nat.min_eq_left h]
  · rw [Nat.min_eq_right h, List.take_of_length_le (Nat.le_refl _), List.take_of_length_le h]
theorem cutD_lo (ds : List D) (n : Nat) : cutD ds (some (n : Int)) none = ds.drop n := by
  unfold cutD
  rw [HT.sIx_none, HT.sIx_nat]
  rcases Nat.le_total n ds.length with h | h
  · rw [Nat.min_eq_left h, List.take_of_length_le (by rw [List.length_drop]; exact Nat.le_refl _)]
  · rw [Nat.min_eq_right h, Nat.sub_self, List.take_zero, List.drop_of_length_le h]
theorem cutD_sub (ds : List D) (lo hi : Option Int) : ∀ d ∈ cutD ds lo hi, d ∈ ds := fun d h => List.mem_of_mem_drop (List.mem_of_mem_take h)
theorem cutD_len (ds : List D) (lo hi : Option Int) : (cutD ds lo hi).length ≤ ds.length := by
  unfold cutD; rw [List.length_take, List.length_drop]; omega
theorem cutD_map {f : Int → D} (ns : List Int) (lo hi : Option Int) : ∃ ms : List Int, cutD (ns.map f) lo hi = ms.map f := ⟨_, by unfold cutD; rw [← List.map_drop, ← List.map_take]⟩
theorem atI_mem {α : Type} {xs : List α} {i : Int} (h0 : 0 ≤ i) (h1 : i < xs.length) : ∃ x, L2.atI xs i = some x ∧ x ∈ xs ∧ xs[i.toNat]? = some x := by
  have hk : i.toNat < xs.length := by omega
  have e : ((i.toNat : Nat) : Int) = i := by omega
  have q := atI_nat (List.getElem?_eq_getElem hk)
  rw [e] at q
  exact ⟨xs[i.toNat], q, List.getElem_mem hk, List.getElem?_eq_getElem hk⟩
section
variable {st : Sto} {Q : D → Prop} {E : ErP}
theorem lk_mod_gen {i j : Int} (h0 : 0 < j) (h : ∀ r : Int, 0 ≤ r → r < j → Q (.int r)) : Lk (modD (.int i) (.int j) st) Q := lk_mod h0 (h _ (Int.emod_nonneg _ (by omega)) (Int.emod_lt_of_pos _ h0))
/-- an item of a list that is made there and then -/
theorem lk_ix_lst {ds : List D} {i : Int} (h0 : 0 ≤ i) (h1 : i < ds.length) (h : ∀ d, d ∈ ds → ds[i.toNat]? = some d → Q d) : Lk (ixD (.lst ds) (.int i) st) Q := by
  obtain ⟨x, e, h2, h3⟩ := atI_mem h0 h1
  exact lk_some (a := x) (by show (some ds).bind (fun ds => L2.atI ds i) = _; exact e) (h x h2 h3)
theorem lk_ix_tup {ds : List D} {i : Int} (h0 : 0 ≤ i) (h1 : i < ds.length) (h : ∀ d, d ∈ ds → ds[i.toNat]? = some d → Q d) : Lk (ixD (.tup ds) (.int i) st) Q := by
  obtain ⟨x, e, h2, h3⟩ := atI_mem h0 h1
  exact lk_some (a := x) (by show (some ds).bind (fun ds => L2.atI ds i) = _; exact e) (h x h2 h3)
theorem lk_ix_cell {n : Nat} {ds : List D} {i : Int} (e : st[n]? = some (.lst ds)) (h0 : 0 ≤ i) (h1 : i < ds.length) (h : ∀ d, d ∈ ds → ds[i.toNat]? = some d → Q d) : Lk (ixD (.cell n) (.int i) st) Q := by
  obtain ⟨x, e2, h2, h3⟩ := atI_mem h0 h1
  refine lk_some (a := x) ?_ (h x h2 h3)
  show (match deref st (.cell n) with | .lst ds => some ds | .tup ds => some ds | _ => none).bind (fun ds => L2.atI ds i) = _
  rw [deref_cell, e]
  exact e2
theorem lk_ix_str {z : Str} {i : Int} (hz : z.length ≤ sizeLine) (h0 : 0 ≤ i) (h1 : i < z.length) (h : ∀ c, c ∈ z.cps.toList → z.cps.toList[i.toNat]? = some c → Q (.str ⟨#[c]⟩)) : Lk (ixD (.str z) (.int i) st) Q := by
  obtain ⟨x, e, h2, h3⟩ := atI_mem (xs := z.cps.toList) h0 (by simpa [Str.length] using h1)
  refine lk_some (a := .str ⟨#[x]⟩) ?_ (h x h2 h3)
  show (if small z.length = true then (L2.atI z.cps.toList i).map fun c => D.str ⟨#[c]⟩ else none) = _
  rw [if_pos (small_iff.mpr hz), e]; rfl
theorem lk_ixt {ds : List D} {i : Int} {a : D} (e : L2.atI ds i = some a) (h : Q a) : Lk (ixD (.tup ds) (.int i) st) Q := lk_some (a := a) (by show (some ds).bind (fun ds => L2.atI ds i) = _; exact e) h
theorem lk_ixl {ds : List D} {i : Int} {a : D} (e : L2.atI ds i = some a) (h : Q a) : Lk (ixD (.lst ds) (.int i) st) Q := lk_some (a := a) (by show (some ds).bind (fun ds => L2.atI ds i) = _; exact e) h
theorem glk_len_lst {ds : List D} {Q : D → Sto → Prop} (h : Q (.int ds.length) st) : GLk (lenG [.lst ds] st) Q := h
theorem glk_len_tup {ds : List D} {Q : D → Sto → Prop} (h : Q (.int ds.length) st) : GLk (lenG [.tup ds] st) Q := h
theorem glk_len_str {z : Str} {Q : D → Sto → Prop} (hz : z.length ≤ sizeLine) (h : Q (.int z.length) st) : GLk (lenG [.str z] st) Q := by
  refine glk_some (d := .int z.length) (st := st) ?_ h
  have e : lenB (.str z) st = some z.length := if_pos (small_iff.mpr hz)
  unfold lenG
  simp only [e]
  rfl
theorem glk_sum {ms : List Int} {Q : D → Sto → Prop} (h : Q (.int ms.sum) st) : GLk (sumG [.lst (iL ms)] st) Q := by
  refine glk_some (d := .int ms.sum) (st := st) ?_ h
  show ((lstB st (.lst (iL ms))).bind intsD).map _ = _
  have e : lstB st (.lst (iL ms)) = some (iL ms) := rfl
  rw [e]
  show (intsD (iL ms)).map _ = _
  rw [intsD_iL]; rfl
theorem le_line {n : Nat} (h : n ≤ 16777216) : n ≤ sizeLine := by rw [sizeLine_eq]; exact h
/-! ## the deck -/
theorem ix_cell {n : Nat} {ds : List D} {i : Int} {d : D} (e : st[n]? = some (.lst ds)) (h : L2.atI ds i = some d) : ixD (.cell n) (.int i) st = some d := by
  show (match deref st (.cell n) with | .lst ds => some ds | .tup ds => some ds | _ => none).bind (fun ds => L2.atI ds i) = _
  rw [deref_cell, e]
  exact h
theorem get_set {n : Nat} {c c' : Cel} (h : st[n]? = some c) : (st.set n c')[n]? = some c' := List.getElem?_set_self (List.getElem?_eq_some_iff.mp h).1
theorem get_ne {n j : Nat} {c' : Cel} {o : Option Cel} (h : st[j]? = o) (e : n ≠ j) : (st.set n c')[j]? = o := by rw [List.getElem?_set_ne e]; exact h
theorem get_app {n : Nat} {c : Cel} {cs : List Cel} (h : st[n]? = some c) : (st ++ cs)[n]? = some c := by
  rw [List.getElem?_append_left (List.getElem?_eq_some_iff.mp h).1]; exact h
theorem get_new {c : Cel} : (st ++ [c])[st.length]? = some c := by simp
/-- what lies beside n and m stays -/
def Fr (n m : Nat) (st st' : Sto) : Prop := ∀ j c, j ≠ n → j ≠ m → st[j]? = some c → st'[j]? = some c
theorem Fr.refl (n m : Nat) (st : Sto) : Fr n m st st := fun _ _ _ _ h => h
theorem Fr.trans {n m : Nat} {st st1 st2 : Sto} (a : Fr n m st st1) (b : Fr n m st1 st2) : Fr n m st st2 := fun j c h1 h2 h => b j c h1 h2 (a j c h1 h2 h)
theorem Fr.app {n m : Nat} {st : Sto} (cs : List Cel) : Fr n m st (st ++ cs) := fun _ _ _ _ h => get_app h
theorem Fr.set1 {n m : Nat} {st : Sto} (c : Cel) : Fr n m st (st.set n c) := fun j _ h1 _ h => get_ne h (Ne.symm h1)
theorem Fr.set2 {n m : Nat} {st : Sto} (c : Cel) : Fr n m st (st.set m c) := fun j _ _ h2 h => get_ne h (Ne.symm h2)
/-- the deck stands at n, its cells at m, so many turns at most -/
structure Dk (st : Sto) (n m : Nat) (t : Int) : Prop where
  ex : ∃ (ns : List Int) (s u : Int), n ≠ m ∧ st[n]? = some (.lst [.cell m, .int s, .int u]) ∧ st[m]? = some (.lst (iL ns)) ∧ ns.length ≤ 63 ∧ 0 ≤ u ∧ u ≤ t
theorem Dk.more {n m : Nat} {t t' : Int} (h : Dk st n m t) (e : t ≤ t') : Dk st n m t' := by
  obtain ⟨ns, s, u, h1, h2, h3, h0, h4, h5⟩ := h
  exact ⟨ns, s, u, h1, h2, h3, h0, h4, Int.le_trans h5 e⟩
theorem Dk.keep {n m : Nat} {t : Int} {st' : Sto} (h : Dk st n m t) (hn : st'[n]? = st[n]?) (hm : st'[m]? = st[m]?) : Dk st' n m t := by
  obtain ⟨ns, s, u, h1, h2, h3, h0⟩ := h
  exact ⟨ns, s, u, h1, hn.trans h2, hm.trans h3, h0⟩
theorem Dk.app {n m : Nat} {t : Int} (h : Dk st n m t) (cs : List Cel) : Dk (st ++ cs) n m t := by
  obtain ⟨ns, s, u, h1, h2, h3, h0⟩ := h
  exact ⟨ns, s, u, h1, get_app h2, get_app h3, h0⟩
theorem Dk.set {n m j : Nat} {t : Int} (h : Dk st n m t) (c : Cel) (h1 : j ≠ n) (h2 : j ≠ m) : Dk (st.set j c) n m t :=
  h.keep (get_ne rfl h1) (get_ne rfl h2)
theorem sum_loop {gm : GM} {em : EM} {en : En} {st : Sto} {E : ErP} {PL : List D → Sto → Prop} (hg : ∀ d en st, gm d en st = some (en.set 2 (some d))) (hem : ∀ (i : Int) st, ∃ j : Int, em (en.set 2 (some (.int i))) st = .ok (.int j) st) {ns : List Int} (hl : ns.length ≤ 63)
    (hP : ∀ ms : List Int, PL (iL ms) st) : Ok (lcLoop gm tmYes em en (iL ns) [] st) PL E := by
  refine ok_lcLoop (I := fun acc rest st' => st' = st ∧ ∃ as rs : List Int, acc = iL as ∧ rest = iL rs ∧ as.length + rs.length ≤ 63) (fun acc st' h => ?_) (fun d ds acc st' h => ?_) _ _ _ ⟨rfl, [], ns, rfl, rfl, by simpa using hl⟩
  · obtain ⟨rfl, as, rs, rfl, _, _⟩ := h
    exact hP as
  · obtain ⟨rfl, as, rs, rfl, h2, h3⟩ := h
    cases rs with
    | nil => cases h2
    | cons r rs =>
      cases h2
      rw [hg]
      obtain ⟨j, e⟩ := hem r st'
      refine lk_some rfl ?_
      refine ok_tYes ?_
      refine Cnd.t ?_
      refine ok_of e ?_
      refine ⟨?_, rfl, as ++ [j], rs, ?_, rfl, ?_⟩
      · rw [iL_len]
        rw [List.length_cons] at h3
        exact Nat.lt_of_lt_of_le (by omega) (by decide : 63 ≤ sizeLine)
      · unfold iL; rw [List.map_append]; rfl
      · rw [List.length_append, List.length_singleton]; rw [List.length_cons] at h3; omega
end
end Pd

namespace Lw
open PySem PySem.Spec L2 Pd
def top (i : Nat) : Stmt := PySem.Challenge.pw_walksbyworth_k01_terms_of_anything.main.body.getD i (.Pass ⟨0, 0, 0, 0⟩)
abbrev s0 : Stmt := top 18
abbrev s1 : Stmt := top 19
abbrev s2 : Stmt := top 20
abbrev s3 : Stmt := top 21
abbrev s4 : Stmt := top 22
abbrev s5 : Stmt := top 23
abbrev s6 : Stmt := top 24
abbrev s7 : Stmt := top 25
abbrev s8 : Stmt := top 27
abbrev s9 : Stmt := top 28
abbrev s10 : Stmt := top 30
abbrev s11 : Stmt := top 31
abbrev s12 : Stmt := top 32
abbrev s13 : Stmt := top 33
abbrev s14 : Stmt := top 34
abbrev s15 : Stmt := top 35
abbrev s16 : Stmt := top 36
abbrev s17 : Stmt := top 37
abbrev s18 : Stmt := top 38
abbrev s19 : Stmt := top 39
abbrev s20 : Stmt := top 40
abbrev s21 : Stmt := top 41
abbrev s22 : Stmt := top 42
abbrev s23 : Stmt := top 43
abbrev s24 : Stmt := top 44
abbrev s25 : Stmt := top 45
def psOf : Nat → List Str
  | 0 => ["thing"]
  | 1 => ["thing"]
  | 2 => ["text"]
  | 3 => ["thing"]
  | 4 => ["thing"]
  | 5 => ["thing"]
  | 6 => ["thing"]
  | 7 => ["thing"]
  | 8 => ["script"]
  | 9 => ["deck", "ways"]
  | 10 => ["deck"]
  | 11 => ["deck"]
  | 12 => ["deck"]
  | 13 => ["deck"]
  | 14 => ["deck", "deep", "left"]
  | 15 => ["deck", "thing"]
  | 16 => ["deck", "thing"]
  | 17 => ["thing"]
  | 18 => ["thing"]
  | 19 => ["thing"]
  | 20 => ["thing"]
  | 21 => ["thing"]
  | 22 => ["thing"]
  | 23 => ["thing"]
  | 24 => ["deck"]
  | 25 => ["script"]
  | _ => []
/-- is_whole: thing -/
def b0 (R : Nat → FM) : SM := sRet (mAnd (mUn (isiB "int") (mVar 0)) (mNot (mUn (isiB "bool") (mVar 0))))
/-- is_name: thing sign -/
def b1 (R : Nat → FM) : SM := sSeq (sIf (tmOr (tmNot (mB (mUn (isiB "str") (mVar 0)))) (tmNot (mB (mChain leD leD (mC (.int 1)) (mBlt lenG (lCons (mVar 0) (lNil))) (mC (.int 8)))))) (sRet (mC (.bl false))) (sNil)) (sRet (mBlt allG (lCons (mLc (iAny (mVar 0)) (gmName 1) (tmYes) (mOp inD (mVar 1) (mC (.str "abcdefghijklmnopqrstuvwxyz"))) [1]) (lNil))))
/-- are_figures: text sign -/
def b2 (R : Nat → FM) : SM := sSeq (sIf (tmOr (tmNot (mB (mChain leD leD (mC (.int 1)) (mBlt lenG (lCons (mVar 0) (lNil))) (mC (.int 40))))) (tmNot (mB (mBlt allG (lCons (mLc (iAny (mVar 0)) (gmName 1) (tmYes) (mOp inD (mVar 1) (mC (.str "0123456789"))) [1]) (lNil)))))) (sRet (mC (.bl false))) (sNil)) (sRet (mOr (mOp eqD (mVar 0) (mC (.str "0"))) (mOp neD (mOp ixD (mVar 0) (mC (.int 0))) (mC (.str "0")))))
/-- is_far: thing words -/
def b3 (R : Nat → FM) : SM := sSeq (sIf (tmNot (mB (mUn (isiB "str") (mVar 0)))) (sRet (mC (.bl false))) (sNil)) (sSeq (sSet 1 (mMt "str" splitG (mVar 0) (lCons (mC (.str ".")) (lNil)))) (sSeq (sIf (tmOr (mB (mOp neD (mBlt lenG (lCons (mVar 1) (lNil))) (mC (.int 3)))) (tmOr (tmNot (mB (mCall (R 1) 1 (lCons (mOp ixD (mVar 1) (mC (.int 0))) (lNil))))) (tmNot (mB (mCall (R 1) 1 (lCons (mOp ixD (mVar 1) (mC (.int 2))) (lNil))))))) (sRet (mC (.bl false))) (sNil)) (sRet (mAnd (mCall (R 2) 1 (lCons (mOp ixD (mVar 1) (mC (.int 1))) (lNil))) (mOp neD (mOp ixD (mVar 1) (mC (.int 1))) (mC (.str "0")))))))
/-- is_called: thing -/
def b4 (R : Nat → FM) : SM := sRet (mOr (mCall (R 1) 1 (lCons (mVar 0) (lNil))) (mCall (R 3) 1 (lCons (mVar 0) (lNil))))
/-- is_mark: thing -/
def b5 (R : Nat → FM) : SM := sRet (mAnd (mUn (isiB "str") (mVar 0)) (mOp inD (mVar 0) (mC (.tup [.str "run", .str "gone"]))))
/-- are_terms: thing one -/
def b6 (R : Nat → FM) : SM := sRet (mAnd (mUn (isiB "tuple") (mVar 0)) (mBlt allG (lCons (mLc (iAny (mVar 0)) (gmName 1) (tmYes) (mCall (R 7) 1 (lCons (mVar 1) (lNil))) [1]) (lNil))))
/-- is_term: thing word first rest -/
def b7 (R : Nat → FM) : SM := sSeq (sIf (tmOr (tmNot (mB (mUn (isiB "tuple") (mVar 0)))) (tmOr (mB (mOp ltD (mBlt lenG (lCons (mVar 0) (lNil))) (mC (.int 2)))) (tmNot (mB (mUn (isiB "str") (mOp ixD (mVar 0) (mC (.int 0)))))))) (sRet (mC (.bl false))) (sNil)) (sSeq (sStar 2 [gmName 1, gmName 2, gmName 3] (mVar 0)) (sSeq (sIf (mB (mOp eqD (mVar 1) (mC (.str "at")))) (sRet (mAnd (mOp eqD (mVar 3) (mLst (lNil))) (mAnd (mCall (R 0) 1 (lCons (mVar 2) (lNil))) (mOp geD (mVar 2) (mC (.int 0)))))) (sNil)) (sSeq (sIf (mB (mOp eqD (mVar 1) (mC (.str "world")))) (sRet (mAnd (mOp eqD (mVar 3) (mLst (lNil))) (mAnd (mCall (R 0) 1 (lCons (mVar 2) (lNil))) (mChain leD leD (mC (.int 0)) (mVar 2) (mC (.int 9)))))) (sNil)) (sSeq (sIf (mB (mOp inD (mVar 1) (mTup (lCons (mC (.str "to")) (lCons (mC (.str "fun")) (lCons (mC (.str "give")) (lNil))))))) (sRet (mAnd (mOp eqD (mBlt lenG (lCons (mVar 3) (lNil))) (mC (.int 2))) (mAnd (mCall (R 5) 1 (lCons (mVar 2) (lNil))) (mAnd (mCall (R 7) 1 (lCons (mOp ixD (mVar 3) (mC (.int 0))) (lNil))) (mCall (R 7) 1 (lCons (mOp ixD (mVar 3) (mC (.int 1))) (lNil))))))) (sNil)) (sSeq (sIf (mB (mOp inD (mVar 1) (mTup (lCons (mC (.str "family")) (lCons (mC (.str "call")) (lNil)))))) (sRet (mAnd (mOp eqD (mBlt lenG (lCons (mVar 3) (lNil))) (mC (.int 1))) (mAnd (mCall (R 4) 1 (lCons (mVar 2) (lNil))) (mCall (R 6) 1 (lCons (mOp ixD (mVar 3) (mC (.int 0))) (lNil)))))) (sNil)) (sSeq (sIf (mB (mOp eqD (mVar 1) (mC (.str "shape")))) (sRet (mAnd (mOp eqD (mBlt lenG (lCons (mVar 3) (lNil))) (mC (.int 2))) (mAnd (mCall (R 4) 1 (lCons (mVar 2) (lNil))) (mAnd (mCall (R 1) 1 (lCons (mOp ixD (mVar 3) (mC (.int 0))) (lNil))) (mCall (R 6) 1 (lCons (mOp ixD (mVar 3) (mC (.int 1))) (lNil))))))) (sNil)) (sRet (mAnd (mOp eqD (mVar 1) (mC (.str "hole"))) (mAnd (mOp eqD (mVar 3) (mLst (lNil))) (mCall (R 1) 1 (lCons (mVar 2) (lNil))))))))))))
/-- _law_deck: script cells cell -/
def b8 (R : Nat → FM) : SM := sSeq (sSet 1 (mBlt listG (lCons (mSl (mVar 0) (oNone) (oSome (mC (.int 63)))) (lNil)))) (sRet (mLstC (lCons (mUnC revD (mVar 1)) (lCons (mOp addD (mBlt sumG (lCons (mLc (iAny (mVar 1)) (gmName 2) (tmYes) (mOp modD (mVar 2) (mC (.int 1000033))) [2]) (lNil))) (mOp mulD (mC (.int 6007)) (mBlt lenG (lCons (mVar 1) (lNil))))) (lCons (mC (.int 0)) (lNil))))))
/-- _law_draw: deck ways cell mixed -/
def b9 (R : Nat → FM) : SM := sSeq (sSetIx (mVar 0) (mC (.int 2)) (mOp addD (mOp ixD (mVar 0) (mC (.int 2))) (mC (.int 1)))) (sSeq (sSet 2 (mOp ixD (mVar 0) (mC (.int 1)))) (sSeq (sIf (mB (mOp neD (mOp ixD (mVar 0) (mC (.int 0))) (mLst (lNil)))) (sSeq (sSet 2 (mMt "list" popG (mOp ixD (mVar 0) (mC (.int 0))) lNil)) (sIf (mB (mOp geD (mVar 2) (mOp powD (mC (.int 10)) (mC (.int 18))))) (sSeq (sExpr (mMt "list" appendG (mOp ixD (mVar 0) (mC (.int 0))) (lCons (mOp fdivD (mVar 2) (mVar 1)) (lNil)))) (sRet (mOp modD (mVar 2) (mVar 1)))) (sNil))) (sNil)) (sSeq (sSet 3 (mOp modD (mOp mulD (mOp addD (mOp addD (mOp modD (mVar 2) (mC (.int 2147483629))) (mOp mulD (mC (.int 92821)) (mOp ixD (mVar 0) (mC (.int 2))))) (mC (.int 17))) (mC (.int 48271))) (mC (.int 2147483647)))) (sSeq (sSet 3 (mOp modD (mOp addD (mOp addD (mOp mulD (mVar 3) (mVar 3)) (mOp mulD (mC (.int 69621)) (mOp ixD (mVar 0) (mC (.int 2))))) (mC (.int 29))) (mC (.int 2147483587)))) (sRet (mOp modD (mOp fdivD (mOp modD (mOp addD (mOp mulD (mVar 3) (mVar 3)) (mOp mulD (mC (.int 40692)) (mVar 3))) (mC (.int 2147483563))) (mC (.int 64))) (mVar 1)))))))
/-- _law_name: deck letters many first step k -/
def b10 (R : Nat → FM) : SM := sSeq (sSet 1 (mC (.str "abcdefghijklmnopqrstuvwxyz"))) (sSeq (sSet 2 (mOp ixD (mLst (lCons (mC (.int 1)) (lCons (mC (.int 8)) (lCons (mOp addD (mC (.int 1)) (mCall (R 9) 2 (lCons (mVar 0) (lCons (mC (.int 8)) (lNil))))) (lCons (mC (.int 2)) (lNil)))))) (mCall (R 9) 2 (lCons (mVar 0) (lCons (mC (.int 4)) (lNil)))))) (sSeq (sSet 3 (mCall (R 9) 2 (lCons (mVar 0) (lCons (mC (.int 26)) (lNil))))) (sSeq (sSet 4 (mCall (R 9) 2 (lCons (mVar 0) (lCons (mC (.int 3)) (lNil))))) (sRet (mMt "str" joinG (mC (.str "")) (lCons (mLc (iRng1 (mVar 2)) (gmName 5) (tmYes) (mOp ixD (mVar 1) (mOp modD (mOp addD (mVar 3) (mOp mulD (mVar 4) (mVar 5))) (mC (.int 26)))) [5]) (lNil)))))))
/-- _law_far: deck number -/
def b11 (R : Nat → FM) : SM := sSeq (sSet 1 (mOp ixD (mLst (lCons (mC (.int 1)) (lCons (mC (.int 9)) (lCons (mC (.int 10)) (lCons (mOp addD (mC (.int 1)) (mCall (R 9) 2 (lCons (mVar 0) (lCons (mC (.int 120)) (lNil))))) (lCons (mOp powD (mC (.int 10)) (mC (.int 39))) (lNil))))))) (mCall (R 9) 2 (lCons (mVar 0) (lCons (mC (.int 5)) (lNil)))))) (sRet (mOp addD (mOp addD (mOp addD (mOp addD (mCall (R 10) 1 (lCons (mVar 0) (lNil))) (mC (.str "."))) (mBlt strG (lCons (mVar 1) (lNil)))) (mC (.str "."))) (mCall (R 10) 1 (lCons (mVar 0) (lNil)))))
/-- _law_called: deck -/
def b12 (R : Nat → FM) : SM := sRet (mIf (mB (mOp eqD (mCall (R 9) 2 (lCons (mVar 0) (lCons (mC (.int 3)) (lNil)))) (mC (.int 0)))) (mCall (R 11) 1 (lCons (mVar 0) (lNil))) (mCall (R 10) 1 (lCons (mVar 0) (lNil))))
/-- _law_leaf: deck way number -/
def b13 (R : Nat → FM) : SM := sSeq (sSet 1 (mCall (R 9) 2 (lCons (mVar 0) (lCons (mC (.int 3)) (lNil))))) (sSeq (sSet 2 (mOp ixD (mLst (lCons (mCall (R 9) 2 (lCons (mVar 0) (lCons (mC (.int 3)) (lNil)))) (lCons (mCall (R 9) 2 (lCons (mVar 0) (lCons (mC (.int 14)) (lNil)))) (lCons (mOp powD (mC (.int 10)) (mC (.int 39))) (lNil))))) (mCall (R 9) 2 (lCons (mVar 0) (lCons (mC (.int 3)) (lNil)))))) (sRet (mOp ixD (mLst (lCons (mTup (lCons (mC (.str "at")) (lCons (mVar 2) (lNil)))) (lCons (mTup (lCons (mC (.str "world")) (lCons (mCall (R 9) 2 (lCons (mVar 0) (lCons (mC (.int 10)) (lNil)))) (lNil)))) (lCons (mTup (lCons (mC (.str "hole")) (lCons (mCall (R 10) 1 (lCons (mVar 0) (lNil))) (lNil)))) (lNil))))) (mVar 1))))
/-- _law_term: deck deep left many parts way wanted k -/
def b14 (R : Nat → FM) : SM := sSeq (sPar 5 6 (mCall (R 9) 2 (lCons (mVar 0) (lCons (mC (.int 9)) (lNil)))) (mCall (R 9) 2 (lCons (mVar 0) (lCons (mC (.int 5)) (lNil))))) (sSeq (sIf (tmOr (mB (mOp eqD (mVar 1) (mC (.int 0)))) (tmOr (mB (mOp ltD (mVar 5) (mC (.int 2)))) (mB (mOp ltD (mOp ixD (mVar 2) (mC (.int 0))) (mC (.int 2)))))) (sRet (mCall (R 13) 1 (lCons (mVar 0) (lNil)))) (sNil)) (sSeq (sSet 3 (mIf (mB (mOp ltD (mVar 5) (mC (.int 6)))) (mC (.int 2)) (mBlt minG (lCons (mVar 6) (lCons (mOp ixD (mVar 2) (mC (.int 0))) (lNil)))))) (sSeq (sSetIx (mVar 2) (mC (.int 0)) (mOp subD (mOp ixD (mVar 2) (mC (.int 0))) (mVar 3))) (sSeq (sSet 4 (mBlt tupG (lCons (mLc (iRng1 (mVar 3)) (gmName 7) (tmYes) (mCall (R 14) 3 (lCons (mVar 0) (lCons (mOp subD (mVar 1) (mC (.int 1))) (lCons (mVar 2) (lNil))))) [7]) (lNil)))) (sSeq (sIf (mB (mOp ltD (mVar 5) (mC (.int 6)))) (sRet (mOp addD (mTup (lCons (mOp ixD (mLst (lCons (mC (.str "to")) (lCons (mC (.str "fun")) (lCons (mC (.str "give")) (lCons (mC (.str "give")) (lNil)))))) (mOp subD (mVar 5) (mC (.int 2)))) (lCons (mOp ixD (mLst (lCons (mC (.str "run")) (lCons (mC (.str "gone")) (lNil)))) (mCall (R 9) 2 (lCons (mVar 0) (lCons (mC (.int 2)) (lNil))))) (lNil)))) (mVar 4))) (sNil)) (sSeq (sIf (mB (mOp eqD (mVar 5) (mC (.int 8)))) (sRet (mTup (lCons (mC (.str "shape")) (lCons (mCall (R 12) 1 (lCons (mVar 0) (lNil))) (lCons (mCall (R 10) 1 (lCons (mVar 0) (lNil))) (lCons (mVar 4) (lNil))))))) (sNil)) (sRet (mTup (lCons (mOp ixD (mLst (lCons (mC (.str "family")) (lCons (mC (.str "call")) (lNil)))) (mOp subD (mVar 5) (mC (.int 6)))) (lCons (mCall (R 12) 1 (lCons (mVar 0) (lNil))) (lCons (mVar 4) (lNil))))))))))))
/-- _law_odd: deck thing way some at near -/
def b15 (R : Nat → FM) : SM := sSeq (sSet 2 (mCall (R 9) 2 (lCons (mVar 0) (lCons (mC (.int 9)) (lNil))))) (sSeq (sSet 3 (mLst (lCons (mC .non) (lCons (mC (.bl true)) (lCons (mC (.bl false)) (lCons (mC (.int 0)) (lCons (mNeg (mC (.int 1))) (lCons (mC (.str "")) (lCons (mC (.str "at")) (lCons (mTup (lNil)) (lCons (mLst (lNil)) (lCons (mDnew) (lCons (mTup (lCons (mC (.str "at")) (lNil))) (lCons (mTup (lCons (mC (.str "at")) (lCons (mC (.int 0)) (lNil)))) (lCons (mLst (lCons (mC (.str "at")) (lCons (mC (.int 0)) (lNil)))) (lCons (mC (.str "run")) (lCons (mC (.int 10)) (lNil)))))))))))))))))) (sSeq (sIf (mB (mOp eqD (mCall (R 9) 2 (lCons (mVar 0) (lCons (mC (.int 4)) (lNil)))) (mC (.int 0)))) (sRet (mOp ixD (mVar 3) (mCall (R 9) 2 (lCons (mVar 0) (lCons (mC (.int 15)) (lNil)))))) (sNil)) (sSeq (sIf (mB (mUn (isiB "str") (mVar 1))) (sSeq (sSet 5 (mLst (lCons (mOp addD (mVar 1) (mC (.str "a"))) (lCons (mSl (mVar 1) (oNone) (oSome (mNeg (mC (.int 1))))) (lCons (mMt "str" upperG (mVar 1) lNil) (lCons (mOp addD (mVar 1) (mC (.str ".1.a"))) (lCons (mC (.str "a.01.b")) (lCons (mC (.str "a.0.b")) (lCons (mLst (lCons (mVar 1) (lNil))) (lCons (mTup (lCons (mVar 1) (lNil))) (lCons (mC (.str "a.1.")) (lNil)))))))))))) (sRet (mOp ixD (mVar 5) (mVar 2)))) (sNil)) (sSeq (sIf (mB (mUn (isiB "int") (mVar 1))) (sSeq (sSet 5 (mLst (lCons (mOp addD (mVar 1) (mC (.int 1))) (lCons (mOp subD (mVar 1) (mC (.int 1))) (lCons (mOp subD (mNeg (mC (.int 1))) (mVar 1)) (lCons (mOp eqD (mVar 1) (mC (.int 1))) (lCons (mBlt strG (lCons (mVar 1) (lNil))) (lCons (mLst (lCons (mVar 1) (lNil))) (lCons (mC .non) (lCons (mOp addD (mVar 1) (mC (.int 10))) (lCons (mTup (lCons (mVar 1) (lNil))) (lNil)))))))))))) (sRet (mOp ixD (mVar 5) (mVar 2)))) (sNil)) (sSeq (sIf (tmOr (tmNot (mB (mUn (isiB "tuple") (mVar 1)))) (mB (mOp eqD (mVar 1) (mTup (lNil))))) (sRet (mOp ixD (mVar 3) (mVar 2))) (sNil)) (sSeq (sSet 4 (mCall (R 9) 2 (lCons (mVar 0) (lCons (mBlt lenG (lCons (mVar 1) (lNil))) (lNil))))) (sSeq (sSet 5 (mLst (lCons (mOp addD (mSl (mVar 1) (oNone) (oSome (mVar 4))) (mSl (mVar 1) (oSome (mOp addD (mVar 4) (mC (.int 1)))) (oNone))) (lCons (mOp addD (mSl (mVar 1) (oNone) (oSome (mOp addD (mVar 4) (mC (.int 1))))) (mSl (mVar 1) (oSome (mVar 4)) (oNone))) (lCons (mUn revA (mVar 1)) (lCons (mBlt listG (lCons (mVar 1) (lNil))) (lCons (mOp addD (mVar 1) (mTup (lCons (mTup (lCons (mC (.str "at")) (lCons (mC (.int 0)) (lNil)))) (lNil)))) (lNil)))))))) (sRet (mOp ixD (mOp addD (mVar 5) (mLst (lCons (mSl (mVar 1) (oNone) (oSome (mNeg (mC (.int 1))))) (lCons (mTup (lCons (mVar 1) (lNil))) (lCons (mOp addD (mVar 1) (mTup (lCons (mC (.int 0)) (lNil)))) (lCons (mDisp [(mC (.int 0), mVar 1)]) (lNil))))))) (mVar 2))))))))))
/-- _law_bent: deck thing way last at -/
def b16 (R : Nat → FM) : SM := sSeq (sPar 2 3 (mCall (R 9) 2 (lCons (mVar 0) (lCons (mC (.int 7)) (lNil)))) (mOp eqD (mCall (R 9) 2 (lCons (mVar 0) (lCons (mC (.int 4)) (lNil)))) (mC (.int 1)))) (sSeq (sIf (tmAnd (mB (mUn (isiB "tuple") (mVar 1))) (tmAnd (mB (mOp neD (mVar 1) (mTup (lNil)))) (mB (mOp ltD (mVar 2) (mC (.int 5)))))) (sSeq (sSet 4 (mOp ixD (mLst (lCons (mCall (R 9) 2 (lCons (mVar 0) (lCons (mBlt lenG (lCons (mVar 1) (lNil))) (lNil)))) (lCons (mOp subD (mBlt lenG (lCons (mVar 1) (lNil))) (mC (.int 1))) (lNil)))) (mBlt intG (lCons (mVar 3) (lNil))))) (sRet (mOp addD (mOp addD (mSl (mVar 1) (oNone) (oSome (mVar 4))) (mTup (lCons (mCall (R 16) 2 (lCons (mVar 0) (lCons (mOp ixD (mVar 1) (mVar 4)) (lNil)))) (lNil)))) (mSl (mVar 1) (oSome (mOp addD (mVar 4) (mC (.int 1)))) (oNone))))) (sNil)) (sRet (mCall (R 15) 2 (lCons (mVar 0) (lCons (mVar 1) (lNil))))))
/-- _law_is_whole: thing -/
def b17 (R : Nat → FM) : SM := sRet (mAnd (mUn (isiB "int") (mVar 0)) (mNot (mUn (isiB "bool") (mVar 0))))
/-- _law_is_name: thing sign -/
def b18 (R : Nat → FM) : SM := sSeq (sIf (tmOr (tmNot (mB (mUn (isiB "str") (mVar 0)))) (tmOr (mB (mOp eqD (mVar 0) (mC (.str "")))) (mB (mOp gtD (mBlt lenG (lCons (mVar 0) (lNil))) (mC (.int 8)))))) (sRet (mC (.bl false))) (sNil)) (sRet (mOp eqD (mLc (iAny (mVar 0)) (gmName 1) (tmNot (mB (mChain leD leD (mC (.str "a")) (mVar 1) (mC (.str "z"))))) (mVar 1) [1]) (mLst (lNil))))
/-- _law_is_far: thing first number last sign -/
def b19 (R : Nat → FM) : SM := sSeq (sIf (tmOr (tmNot (mB (mUn (isiB "str") (mVar 0)))) (mB (mOp neD (mMt "str" countG (mVar 0) (lCons (mC (.str ".")) (lNil))) (mC (.int 2))))) (sRet (mC (.bl false))) (sNil)) (sSeq (sAsg (gmLst [gmName 1, gmName 2, gmName 3]) (mMt "str" splitG (mVar 0) (lCons (mC (.str ".")) (lNil)))) (sSeq (sIf (tmOr (mB (mOp inD (mSl (mVar 2) (oNone) (oSome (mC (.int 1)))) (mTup (lCons (mC (.str "")) (lCons (mC (.str "0")) (lNil)))))) (tmOr (mB (mOp gtD (mBlt lenG (lCons (mVar 2) (lNil))) (mC (.int 40)))) (mB (mOp neD (mLc (iAny (mVar 2)) (gmName 4) (mB (mOp notInD (mVar 4) (mC (.str "0123456789")))) (mVar 4) [4]) (mLst (lNil)))))) (sRet (mC (.bl false))) (sNil)) (sRet (mAnd (mCall (R 18) 1 (lCons (mVar 1) (lNil))) (mCall (R 18) 1 (lCons (mVar 3) (lNil)))))))
/-- _law_is_mark: thing -/
def b20 (R : Nat → FM) : SM := sRet (mAnd (mUn (isiB "str") (mVar 0)) (mOp inD (mVar 0) (mTup (lCons (mC (.str "run")) (lCons (mC (.str "gone")) (lNil))))))
/-- _law_are_terms: thing one -/
def b21 (R : Nat → FM) : SM := sRet (mAnd (mUn (isiB "tuple") (mVar 0)) (mOp eqD (mLc (iAny (mVar 0)) (gmName 1) (tmNot (mB (mCall (R 22) 1 (lCons (mVar 1) (lNil))))) (mVar 1) [1]) (mLst (lNil))))
/-- _law_is_term: thing word many good -/
def b22 (R : Nat → FM) : SM := sSeq (sIf (tmOr (tmNot (mB (mUn (isiB "tuple") (mVar 0)))) (tmOr (mB (mOp eqD (mVar 0) (mTup (lNil)))) (tmNot (mB (mUn (isiB "str") (mOp ixD (mVar 0) (mC (.int 0)))))))) (sRet (mC (.bl false))) (sNil)) (sSeq (sPar 1 2 (mOp ixD (mVar 0) (mC (.int 0))) (mBlt lenG (lCons (mVar 0) (lNil)))) (sSeq (sIf (mB (mOp inD (mVar 1) (mTup (lCons (mC (.str "at")) (lCons (mC (.str "world")) (lNil)))))) (sSeq (sSet 3 (mAnd (mOp eqD (mVar 2) (mC (.int 2))) (mAnd (mCall (R 17) 1 (lCons (mOp ixD (mVar 0) (mC (.int 1))) (lNil))) (mOp geD (mOp ixD (mVar 0) (mC (.int 1))) (mC (.int 0)))))) (sRet (mAnd (mVar 3) (mOr (mOp eqD (mVar 1) (mC (.str "at"))) (mOp ltD (mOp ixD (mVar 0) (mC (.int 1))) (mC (.int 10))))))) (sNil)) (sSeq (sIf (mB (mOp inD (mVar 1) (mTup (lCons (mC (.str "to")) (lCons (mC (.str "fun")) (lCons (mC (.str "give")) (lNil))))))) (sRet (mAnd (mOp eqD (mVar 2) (mC (.int 4))) (mAnd (mCall (R 20) 1 (lCons (mOp ixD (mVar 0) (mC (.int 1))) (lNil))) (mAnd (mCall (R 22) 1 (lCons (mOp ixD (mVar 0) (mC (.int 2))) (lNil))) (mCall (R 22) 1 (lCons (mOp ixD (mVar 0) (mC (.int 3))) (lNil))))))) (sNil)) (sSeq (sIf (mB (mOp eqD (mVar 1) (mC (.str "hole")))) (sRet (mAnd (mOp eqD (mVar 2) (mC (.int 2))) (mCall (R 18) 1 (lCons (mOp ixD (mVar 0) (mC (.int 1))) (lNil))))) (sNil)) (sSeq (sIf (tmOr (mB (mOp notInD (mVar 1) (mTup (lCons (mC (.str "family")) (lCons (mC (.str "call")) (lCons (mC (.str "shape")) (lNil))))))) (mB (mOp neD (mVar 2) (mOp addD (mC (.int 3)) (mBlt intG (lCons (mOp eqD (mVar 1) (mC (.str "shape"))) (lNil))))))) (sRet (mC (.bl false))) (sNil)) (sSeq (sIf (tmAnd (tmNot (mB (mCall (R 18) 1 (lCons (mOp ixD (mVar 0) (mC (.int 1))) (lNil))))) (tmNot (mB (mCall (R 19) 1 (lCons (mOp ixD (mVar 0) (mC (.int 1))) (lNil)))))) (sRet (mC (.bl false))) (sNil)) (sRet (mAnd (mOr (mOp neD (mVar 1) (mC (.str "shape"))) (mCall (R 18) 1 (lCons (mOp ixD (mVar 0) (mC (.int 2))) (lNil)))) (mCall (R 21) 1 (lCons (mOp ixD (mVar 0) (mNeg (mC (.int 1)))) (lNil)))))))))))
/-- _law_right: thing kept due again -/
def b23 (R : Nat → FM) : SM := sSeq (sSet 1 (mBlt reprG (lCons (mVar 0) (lNil)))) (sSeq (sSet 2 (mBlt reprG (lCons (mLst (lCons (mCall (R 22) 1 (lCons (mVar 0) (lNil))) (lCons (mCall (R 18) 1 (lCons (mVar 0) (lNil))) (lCons (mCall (R 19) 1 (lCons (mVar 0) (lNil))) (lNil))))) (lNil)))) (sSeq (sFor (iRng1 (mC (.int 2))) (gmName 3) (sIf (tmOr (mB (mOp neD (mBlt reprG (lCons (mLst (lCons (mCall (R 7) 1 (lCons (mVar 0) (lNil))) (lCons (mCall (R 1) 1 (lCons (mVar 0) (lNil))) (lCons (mCall (R 3) 1 (lCons (mVar 0) (lNil))) (lNil))))) (lNil))) (mVar 2))) (mB (mOp neD (mBlt reprG (lCons (mVar 0) (lNil))) (mVar 1)))) (sRet (mC (.bl false))) (sNil))) (sRet (mC (.bl true)))))
/-- _law_names_right: deck some near far thing -/
def b24 (R : Nat → FM) : SM := sSeq (sPar 2 3 (mCall (R 10) 1 (lCons (mVar 0) (lNil))) (mCall (R 11) 1 (lCons (mVar 0) (lNil)))) (sSeq (sIf (tmOr (mB (mOp isNotD (mCall (R 1) 1 (lCons (mVar 2) (lNil))) (mC (.bl true)))) (mB (mOp isNotD (mCall (R 3) 1 (lCons (mVar 3) (lNil))) (mC (.bl true))))) (sRet (mC (.bl false))) (sNil)) (sSeq (sSet 1 (mLst (lCons (mC (.str "abcdefgh")) (lCons (mC (.str "abcdefghi")) (lCons (mOp addD (mVar 2) (mVar 3)) (lCons (mOp addD (mOp addD (mVar 3) (mC (.str "."))) (mVar 2)) (lCons (mOp addD (mOp addD (mVar 2) (mC (.str "."))) (mVar 3)) (lCons (mSl (mVar 3) (oSome (mC (.int 1))) (oNone)) (lCons (mSl (mVar 3) (oNone) (oSome (mNeg (mC (.int 1))))) (lNil)))))))))) (sSeq (sSet 1 (mOpC catD (mVar 1) (mLst (lCons (mRepl "." "" (mVar 3)) (lCons (mOp addD (mVar 2) (mC (.str "."))) (lCons (mOp addD (mC (.str ".")) (mVar 2)) (lCons (mOp addD (mVar 2) (mC (.str ".1"))) (lCons (mOp addD (mOp addD (mVar 2) (mC (.str ".-1."))) (mVar 2)) (lNil))))))))) (sSeq (sExpr (mMt "list" appendG (mVar 1) (lCons (mOp addD (mOp addD (mVar 2) (mC (.str ".1 ."))) (mVar 2)) (lNil)))) (sSeq (sSet 1 (mOp addD (mVar 1) (mLst (lCons (mOp addD (mVar 2) (mC (.str "\n"))) (lCons (mOp addD (mVar 3) (mC (.str "\n"))) (lCons (mOp addD (mC (.str " ")) (mVar 2)) (lCons (mOp addD (mOp addD (mOp addD (mVar 2) (mC (.str "."))) (mVar 2)) (mC (.str ".1"))) (lNil)))))))) (sSeq (sSet 1 (mOp addD (mVar 1) (mLst (lCons (mOp addD (mOp addD (mOp addD (mOp addD (mVar 2) (mC (.str "."))) (mOp mulD (mC (.str "9")) (mC (.int 40)))) (mC (.str "."))) (mVar 2)) (lCons (mOp addD (mOp addD (mOp addD (mOp addD (mVar 2) (mC (.str "."))) (mOp mulD (mC (.str "9")) (mC (.int 41)))) (mC (.str "."))) (mVar 2)) (lNil)))))) (sSeq (sSet 1 (mOp addD (mVar 1) (mLst (lCons (mCall (R 15) 2 (lCons (mVar 0) (lCons (mVar 2) (lNil)))) (lCons (mCall (R 15) 2 (lCons (mVar 0) (lCons (mVar 3) (lNil)))) (lCons (mRepl "." ".0" (mVar 3)) (lCons (mRepl "." ".." (mVar 3)) (lNil)))))))) (sRet (mOp eqD (mLc (iAny (mVar 1)) (gmName 4) (tmNot (mB (mCall (R 23) 1 (lCons (mVar 4) (lNil))))) (mVar 4) [4]) (mLst (lNil)))))))))))
/-- law: script deck twices twice things last good turn chain k bent thing -/
def b25 (R : Nat → FM) : SM := sSeq (sSet 1 (mCall (R 8) 1 (lCons (mVar 0) (lNil)))) (sSeq (sSet 2 (mLc (iRng1 (mC (.int 8))) (gmName 7) (tmYes) (mCall (R 9) 2 (lCons (mVar 1) (lCons (mC (.int 2)) (lNil)))) [7])) (sSeq (sFor (iAny (mVar 2)) (gmName 3) (sSeq (sSet 6 (mCall (R 14) 3 (lCons (mVar 1) (lCons (mOp ixD (mLst (lCons (mC (.int 2)) (lCons (mC (.int 5)) (lCons (mC (.int 11)) (lNil))))) (mCall (R 9) 2 (lCons (mVar 1) (lCons (mC (.int 3)) (lNil))))) (lCons (mLstC (lCons (mCall (R 9) 2 (lCons (mVar 1) (lCons (mC (.int 80)) (lNil)))) (lNil))) (lNil)))))) (sSeq (sIf (tmOr (mB (mOp isNotD (mCall (R 7) 1 (lCons (mVar 6) (lNil))) (mC (.bl true)))) (tmNot (mB (mCall (R 23) 1 (lCons (mVar 6) (lNil)))))) (sRet (mC (.bl false))) (sNil)) (sSeq (sFor (iRng1 (mC (.int 3))) (gmName 7) (sSeq (sSet 10 (mCall (R 16) 2 (lCons (mVar 1) (lCons (mVar 6) (lNil))))) (sSeq (sIf (mB (mOp eqD (mVar 3) (mC (.int 1)))) (sSet 10 (mCall (R 16) 2 (lCons (mVar 1) (lCons (mVar 10) (lNil))))) (sNil)) (sIf (tmNot (mB (mCall (R 23) 1 (lCons (mVar 10) (lNil))))) (sRet (mC (.bl false))) (sNil))))) (sIf (tmNot (mB (mCall (R 24) 1 (lCons (mVar 1) (lNil))))) (sRet (mC (.bl false))) (sNil)))))) (sSeq (sSet 4 (mLst (lCons (mC .non) (lCons (mC (.bl true)) (lCons (mC (.int 0)) (lCons (mC (.str "")) (lCons (mC (.str "at")) (lCons (mTup (lNil)) (lCons (mLst (lNil)) (lCons (mDnew) (lCons (mTup (lCons (mC (.str "at")) (lNil))) (lCons (mTup (lCons (mC (.str "at")) (lCons (mC (.int 0)) (lCons (mC (.int 0)) (lNil))))) (lCons (mTup (lCons (mC (.str "world")) (lCons (mC (.int 9)) (lNil)))) (lCons (mTup (lCons (mC (.str "world")) (lCons (mC (.int 10)) (lNil)))) (lCons (mTup (lCons (mC (.str "at")) (lCons (mOp powD (mC (.int 10)) (mC (.int 39))) (lNil)))) (lNil)))))))))))))))) (sSeq (sSet 4 (mOp addD (mVar 4) (mLst (lCons (mTup (lCons (mC (.str "at")) (lCons (mC (.bl true)) (lNil)))) (lCons (mTup (lCons (mC (.str "world")) (lCons (mC (.bl false)) (lNil)))) (lCons (mTup (lCons (mC (.str "family")) (lCons (mC (.str "a")) (lCons (mTup (lNil)) (lNil))))) (lCons (mTup (lCons (mC (.str "family")) (lCons (mC (.str "a")) (lCons (mLst (lNil)) (lNil))))) (lCons (mTup (lCons (mC (.str "call")) (lCons (mC (.str "a")) (lNil)))) (lNil))))))))) (sSeq (sSet 4 (mOpC catD (mVar 4) (mLst (lCons (mTup (lCons (mC (.str "give")) (lCons (mC (.str "run")) (lCons (mTup (lCons (mC (.str "at")) (lCons (mC (.int 0)) (lNil)))) (lCons (mTup (lCons (mC (.str "at")) (lCons (mC (.int 0)) (lNil)))) (lNil)))))) (lCons (mTup (lCons (mC (.str "give")) (lCons (mTup (lCons (mC (.str "at")) (lCons (mC (.int 0)) (lNil)))) (lCons (mTup (lCons (mC (.str "at")) (lCons (mC (.int 0)) (lNil)))) (lNil))))) (lNil)))))) (sSeq (sExpr (mMt "list" appendG (mVar 4) (lCons (mTup (lCons (mC (.str "shape")) (lCons (mC (.str "a")) (lCons (mC (.str "b.1.c")) (lCons (mTup (lNil)) (lNil)))))) (lNil)))) (sSeq (sSet 4 (mOp addD (mVar 4) (mLst (lCons (mTup (lCons (mC (.str "hole")) (lCons (mC (.str "a.1.b")) (lNil)))) (lCons (mTup (lCons (mC (.str "open")) (lCons (mC (.str "a")) (lCons (mTup (lNil)) (lCons (mTup (lCons (mC (.str "world")) (lCons (mC (.int 0)) (lNil)))) (lNil)))))) (lCons (mTup (lCons (mC (.str "take")) (lNil))) (lCons (mTup (lCons (mC (.str "to")) (lCons (mC (.str "run")) (lCons (mTup (lCons (mC (.str "at")) (lCons (mC (.int 0)) (lNil)))) (lNil))))) (lNil)))))))) (sSeq (sSet 4 (mOp addD (mVar 4) (mLst (lCons (mTup (lCons (mTup (lCons (mC (.str "at")) (lCons (mC (.int 0)) (lNil)))) (lNil))) (lCons (mTup (lCons (mC (.str "open")) (lCons (mC (.int 0)) (lNil)))) (lCons (mTup (lCons (mC (.str "due")) (lNil))) (lNil))))))) (sSeq (sFor (iAny (mLst (lCons (mTup (lCons (mC (.str "at")) (lCons (mC (.int 0)) (lNil)))) (lCons (mTup (lCons (mC (.str "at")) (lCons (mNeg (mC (.int 1))) (lNil)))) (lCons (mTup (lCons (mC (.str "at")) (lCons (mC (.bl true)) (lNil)))) (lNil)))))) (gmName 5) (sSeq (sSet 8 (mVar 5)) (sSeq (sFor (iRng1 (mC (.int 70))) (gmName 9) (sSet 8 (mTup (lCons (mC (.str "fun")) (lCons (mC (.str "run")) (lCons (mTup (lCons (mC (.str "world")) (lCons (mC (.int 0)) (lNil)))) (lCons (mVar 8) (lNil)))))))) (sSet 4 (mOp addD (mVar 4) (mLst (lCons (mVar 8) (lCons (mTup (lCons (mC (.str "call")) (lCons (mC (.str "a")) (lCons (mOp addD (mOp mulD (mTup (lCons (mTup (lCons (mC (.str "at")) (lCons (mC (.int 0)) (lNil)))) (lNil))) (mC (.int 449))) (mTup (lCons (mVar 5) (lNil)))) (lNil))))) (lNil))))))))) (sRet (mOp eqD (mLc (iAny (mVar 4)) (gmName 11) (tmNot (mB (mCall (R 23) 1 (lCons (mVar 11) (lNil))))) (mVar 11) [11]) (mLst (lNil)))))))))))))
def bodyOf (i : Nat) (R : Nat → FM) : FM := match i with
  | 0 => fnM 1 (b0 R)
  | 1 => fnM 2 (b1 R)
  | 2 => fnM 2 (b2 R)
  | 3 => fnM 2 (b3 R)
  | 4 => fnM 1 (b4 R)
  | 5 => fnM 1 (b5 R)
  | 6 => fnM 2 (b6 R)
  | 7 => fnM 4 (b7 R)
  | 8 => fnM 3 (b8 R)
  | 9 => fnM 4 (b9 R)
  | 10 => fnM 6 (b10 R)
  | 11 => fnM 2 (b11 R)
  | 12 => fnM 1 (b12 R)
  | 13 => fnM 3 (b13 R)
  | 14 => fnM 8 (b14 R)
  | 15 => fnM 6 (b15 R)
  | 16 => fnM 5 (b16 R)
  | 17 => fnM 1 (b17 R)
  | 18 => fnM 2 (b18 R)
  | 19 => fnM 5 (b19 R)
  | 20 => fnM 1 (b20 R)
  | 21 => fnM 2 (b21 R)
  | 22 => fnM 4 (b22 R)
  | 23 => fnM 4 (b23 R)
  | 24 => fnM 5 (b24 R)
  | 25 => fnM 12 (b25 R)
  | _ => fun _ _ => .bad
def run : Nat → Nat → FM
  | 0, _ => fun _ _ => .bad
  | k + 1, i => bodyOf i (run k)
structure Mod (K : PySem.W.Frag) (mg : Str → Option Value) (fa : Nat → Addr) (fd : Nat → FuncData) : Prop where
  d0 : DA K mg "is_whole" s0 ["thing"] (fa 0) (fd 0)
  d1 : DA K mg "is_name" s1 ["thing"] (fa 1) (fd 1)
  d2 : DA K mg "are_figures" s2 ["text"] (fa 2) (fd 2)
  d3 : DA K mg "is_far" s3 ["thing"] (fa 3) (fd 3)
  d4 : DA K mg "is_called" s4 ["thing"] (fa 4) (fd 4)
  d5 : DA K mg "is_mark" s5 ["thing"] (fa 5) (fd 5)
  d6 : DA K mg "are_terms" s6 ["thing"] (fa 6) (fd 6)
  d7 : DA K mg "is_term" s7 ["thing"] (fa 7) (fd 7)
  d8 : DA K mg "_law_deck" s8 ["script"] (fa 8) (fd 8)
  d9 : DA K mg "_law_draw" s9 ["deck", "ways"] (fa 9) (fd 9)
  d10 : DA K mg "_law_name" s10 ["deck"] (fa 10) (fd 10)
  d11 : DA K mg "_law_far" s11 ["deck"] (fa 11) (fd 11)
  d12 : DA K mg "_law_called" s12 ["deck"] (fa 12) (fd 12)
  d13 : DA K mg "_law_leaf" s13 ["deck"] (fa 13) (fd 13)
  d14 : DA K mg "_law_term" s14 ["deck", "deep", "left"] (fa 14) (fd 14)
  d15 : DA K mg "_law_odd" s15 ["deck", "thing"] (fa 15) (fd 15)
  d16 : DA K mg "_law_bent" s16 ["deck", "thing"] (fa 16) (fd 16)
  d17 : DA K mg "_law_is_whole" s17 ["thing"] (fa 17) (fd 17)
  d18 : DA K mg "_law_is_name" s18 ["thing"] (fa 18) (fd 18)
  d19 : DA K mg "_law_is_far" s19 ["thing"] (fa 19) (fd 19)
  d20 : DA K mg "_law_is_mark" s20 ["thing"] (fa 20) (fd 20)
  d21 : DA K mg "_law_are_terms" s21 ["thing"] (fa 21) (fd 21)
  d22 : DA K mg "_law_is_term" s22 ["thing"] (fa 22) (fd 22)
  d23 : DA K mg "_law_right" s23 ["thing"] (fa 23) (fd 23)
  d24 : DA K mg "_law_names_right" s24 ["deck"] (fa 24) (fd 24)
  d25 : DA K mg "law" s25 ["script"] (fa 25) (fd 25)
  z_all : mg "all" = none
  z_bool : mg "bool" = none
  z_int : mg "int" = none
  z_isinstance : mg "isinstance" = none
  z_len : mg "len" = none
  z_list : mg "list" = none
  z_min : mg "min" = none
  z_range : mg "range" = none
  z_repr : mg "repr" = none
  z_str : mg "str" = none
  z_sum : mg "sum" = none
  z_tuple : mg "tuple" = none
  g_AT : ∃ t, mg "AT" = some (.str "at" t)
  g_CALL : ∃ t, mg "CALL" = some (.str "call" t)
  g_FAMILY : ∃ t, mg "FAMILY" = some (.str "family" t)
  g_FIGURES : ∃ t, mg "FIGURES" = some (.str "0123456789" t)
  g_FUN : ∃ t, mg "FUN" = some (.str "fun" t)
  g_GIVE : ∃ t, mg "GIVE" = some (.str "give" t)
  g_HOLE : ∃ t, mg "HOLE" = some (.str "hole" t)
  g_LETTERS : ∃ t, mg "LETTERS" = some (.str "abcdefghijklmnopqrstuvwxyz" t)
  g_MARKS : GTup K mg "MARKS" [.str "run", .str "gone"]
  g_MOST_FIGURES : ∃ t, mg "MOST_FIGURES" = some (.int 40 t)
  g_MOST_NAME : ∃ t, mg "MOST_NAME" = some (.int 8 t)
  g_MOST_WORLD : ∃ t, mg "MOST_WORLD" = some (.int 9 t)
  g_SHAPE : ∃ t, mg "SHAPE" = some (.str "shape" t)
  g_TO : ∃ t, mg "TO" = some (.str "to" t)
  g_WORLD : ∃ t, mg "WORLD" = some (.str "world" t)
theorem sc0 : FnScope ["thing"] ["thing"] (defScope s0) := ⟨rfl, rfl, rfl, by decide +kernel, rfl, by decide +kernel, by decide +kernel⟩
theorem sc1 : FnScope ["thing", "sign"] ["thing"] (defScope s1) := ⟨rfl, rfl, rfl, by decide +kernel, rfl, by decide +kernel, by decide +kernel⟩
theorem sc2 : FnScope ["text", "sign"] ["text"] (defScope s2) := ⟨rfl, rfl, rfl, by decide +kernel, rfl, by decide +kernel, by decide +kernel⟩
theorem sc3 : FnScope ["thing", "words"] ["thing"] (defScope s3) := ⟨rfl, rfl, rfl, by decide +kernel, rfl, by decide +kernel, by decide +kernel⟩
theorem sc4 : FnScope ["thing"] ["thing"] (defScope s4) := ⟨rfl, rfl, rfl, by decide +kernel, rfl, by decide +kernel, by decide +kernel⟩
theorem sc5 : FnScope ["thing"] ["thing"] (defScope s5) := ⟨rfl, rfl, rfl, by decide +kernel, rfl, by decide +kernel, by decide +kernel⟩
theorem sc6 : FnScope ["thing", "one"] ["thing"] (defScope s6) := ⟨rfl, rfl, rfl, by decide +kernel, rfl, by decide +kernel, by decide +kernel⟩
theorem sc7 : FnScope ["thing", "word", "first", "rest"] ["thing"] (defScope s7) := ⟨rfl, rfl, rfl, by decide +kernel, rfl, by decide +kernel, by decide +kernel⟩
theorem sc8 : FnScope ["script", "cells", "cell"] ["script"] (defScope s8) := ⟨rfl, rfl, rfl, by decide +kernel, rfl, by decide +kernel, by decide +kernel⟩
theorem sc9 : FnScope ["deck", "ways", "cell", "mixed"] ["deck", "ways"] (defScope s9) := ⟨rfl, rfl, rfl, by decide +kernel, rfl, by decide +kernel, by decide +kernel⟩
theorem sc10 : FnScope ["deck", "letters", "many", "first", "step", "k"] ["deck"] (defScope s10) := ⟨rfl, rfl, rfl, by decide +kernel, rfl, by decide +kernel, by decide +kernel⟩
theorem sc11 : FnScope ["deck", "number"] ["deck"] (defScope s11) := ⟨rfl, rfl, rfl, by decide +kernel, rfl, by decide +kernel, by decide +kernel⟩
theorem sc12 : FnScope ["deck"] ["deck"] (defScope s12) := ⟨rfl, rfl, rfl, by decide +kernel, rfl, by decide +kernel, by decide +kernel⟩
theorem sc13 : FnScope ["deck", "way", "number"] ["deck"] (defScope s13) := ⟨rfl, rfl, rfl, by decide +kernel, rfl, by decide +kernel, by decide +kernel⟩
theorem sc14 : FnScope ["deck", "deep", "left", "many", "parts", "way", "wanted", "k"] ["deck", "deep", "left"] (defScope s14) := ⟨rfl, rfl, rfl, by decide +kernel, rfl, by decide +kernel, by decide +kernel⟩
theorem sc15 : FnScope ["deck", "thing", "way", "some", "at", "near"] ["deck", "thing"] (defScope s15) := ⟨rfl, rfl, rfl, by decide +kernel, rfl, by decide +kernel, by decide +kernel⟩
theorem sc16 : FnScope ["deck", "thing", "way", "last", "at"] ["deck", "thing"] (defScope s16) := ⟨rfl, rfl, rfl, by decide +kernel, rfl, by decide +kernel, by decide +kernel⟩
theorem sc17 : FnScope ["thing"] ["thing"] (defScope s17) := ⟨rfl, rfl, rfl, by decide +kernel, rfl, by decide +kernel, by decide +kernel⟩
theorem sc18 : FnScope ["thing", "sign"] ["thing"] (defScope s18) := ⟨rfl, rfl, rfl, by decide +kernel, rfl, by decide +kernel, by decide +kernel⟩
theorem sc19 : FnScope ["thing", "first", "number", "last", "sign"] ["thing"] (defScope s19) := ⟨rfl, rfl, rfl, by decide +kernel, rfl, by decide +kernel, by decide +kernel⟩
theorem sc20 : FnScope ["thing"] ["thing"] (defScope s20) := ⟨rfl, rfl, rfl, by decide +kernel, rfl, by decide +kernel, by decide +kernel⟩
theorem sc21 : FnScope ["thing", "one"] ["thing"] (defScope s21) := ⟨rfl, rfl, rfl, by decide +kernel, rfl, by decide +kernel, by decide +kernel⟩
theorem sc22 : FnScope ["thing", "word", "many", "good"] ["thing"] (defScope s22) := ⟨rfl, rfl, rfl, by decide +kernel, rfl, by decide +kernel, by decide +kernel⟩
theorem sc23 : FnScope ["thing", "kept", "due", "again"] ["thing"] (defScope s23) := ⟨rfl, rfl, rfl, by decide +kernel, rfl, by decide +kernel, by decide +kernel⟩
theorem sc24 : FnScope ["deck", "some", "near", "far", "thing"] ["deck"] (defScope s24) := ⟨rfl, rfl, rfl, by decide +kernel, rfl, by decide +kernel, by decide +kernel⟩
theorem sc25 : FnScope ["script", "deck", "twices", "twice", "things", "last", "good", "turn", "chain", "k", "bent", "thing"] ["script"] (defScope s25) := ⟨rfl, rfl, rfl, by decide +kernel, rfl, by decide +kernel, by decide +kernel⟩
section
variable {P : Program} {w : World} {K : PySem.W.Frag} {mg : Str → Option Value} {base : Heap} {fa : Nat → Addr} {fd : Nat → FuncData} {k : Nat} {R : Nat → FM}
set_option maxHeartbeats 4000000 in
theorem ok0 (M : Mod K mg fa fd) (hR : ∀ j, j < 26 → FnG P w K mg base k (fa j) (fd j) (psOf j) (spD ⟨K, mg⟩ (psOf j).length (R j))) : FnG P w K mg base (k + 1) (fa 0) (fd 0) (psOf 0) (spD ⟨K, mg⟩ (psOf 0).length (bodyOf 0 R)) :=
  fnD M.d0.F sc0 fun cdv A outer s H E hB hP => pds_one (pds_ret (pd_and (pd_isi (pd_var 0 (pv 0)) M.z_isinstance M.z_int) (pd_one (pd_not (pd_isi (pd_var 0 (pv 0)) M.z_isinstance M.z_bool)))))
set_option maxHeartbeats 4000000 in
theorem ok1 (M : Mod K mg fa fd) (hR : ∀ j, j < 26 → FnG P w K mg base k (fa j) (fd j) (psOf j) (spD ⟨K, mg⟩ (psOf j).length (R j))) : FnG P w K mg base (k + 1) (fa 1) (fd 1) (psOf 1) (spD ⟨K, mg⟩ (psOf 1).length (bodyOf 1 R)) :=
  fnD M.d1.F sc1 fun cdv A outer s H E hB hP => pds_cons (pds_if ((pdw_or (pdt_not (pdt_val (pd_isi (pd_var 0 (pv 0)) M.z_isinstance M.z_str))) (pdw_or1 (pdt_not (pdt_chain op_leD op_leD (pd_int) (pd_blt call_lenD (pda_cons (pda_nil) (pd_var 0 (pv 0))) M.z_len) (pd_gintE M.g_MOST_NAME))))).t) (pds_one (pds_ret (pd_bl))) (pds_nil)) (pds_one (pds_ret (pd_blt (call_allD hB.calm) (pda_cons (pda_nil) (pd_lc (own := [("sign", 1)]) (pdi_any (pd_var 0 (pv 0))) (fun _ _ _ _ _ => pdg_name (i := 1) hB.nd) (fun _ _ _ _ _ => pdts_nil) (fun _ _ _ _ _ => pd_cmp (op_inD hB.rg) (pd_var 1 (pv 1)) (pd_gstrE M.g_LETTERS)) hB.calm hB.nd (blkc_of (N := ["thing", "sign"]) (sc := defScope s1) rfl rfl (by decide +kernel)))) M.z_all)))
set_option maxHeartbeats 4000000 in
theorem ok2 (M : Mod K mg fa fd) (hR : ∀ j, j < 26 → FnG P w K mg base k (fa j) (fd j) (psOf j) (spD ⟨K, mg⟩ (psOf j).length (R j))) : FnG P w K mg base (k + 1) (fa 2) (fd 2) (psOf 2) (spD ⟨K, mg⟩ (psOf 2).length (bodyOf 2 R)) :=
  fnD M.d2.F sc2 fun cdv A outer s H E hB hP => pds_cons (pds_if ((pdw_or (pdt_not (pdt_chain op_leD op_leD (pd_int) (pd_blt call_lenD (pda_cons (pda_nil) (pd_var 0 (pv 0))) M.z_len) (pd_gintE M.g_MOST_FIGURES))) (pdw_or1 (pdt_not (pdt_val (pd_blt (call_allD hB.calm) (pda_cons (pda_nil) (pd_lc (own := [("sign", 1)]) (pdi_any (pd_var 0 (pv 0))) (fun _ _ _ _ _ => pdg_name (i := 1) hB.nd) (fun _ _ _ _ _ => pdts_nil) (fun _ _ _ _ _ => pd_cmp (op_inD hB.rg) (pd_var 1 (pv 1)) (pd_gstrE M.g_FIGURES)) hB.calm hB.nd (blkc_of (N := ["text", "sign"]) (sc := defScope s2) rfl rfl (by decide +kernel)))) M.z_all))))).t) (pds_one (pds_ret (pd_bl))) (pds_nil)) (pds_one (pds_ret (pd_or (pd_cmp (op_eqD' hB.rg) (pd_var 0 (pv 0)) (pd_str)) (pd_one (pd_cmp (op_neD' hB.rg) (pd_ix (pd_var 0 (pv 0)) (pd_int)) (pd_str))))))
set_option maxHeartbeats 4000000 in
theorem ok3 (M : Mod K mg fa fd) (hR : ∀ j, j < 26 → FnG P w K mg base k (fa j) (fd j) (psOf j) (spD ⟨K, mg⟩ (psOf j).length (R j))) : FnG P w K mg base (k + 1) (fa 3) (fd 3) (psOf 3) (spD ⟨K, mg⟩ (psOf 3).length (bodyOf 3 R)) :=
  fnD M.d3.F sc3 fun cdv A outer s H E hB hP => pds_cons (pds_if (pdt_not (pdt_val (pd_isi (pd_var 0 (pv 0)) M.z_isinstance M.z_str))) (pds_one (pds_ret (pd_bl))) (pds_nil)) (pds_cons (pds_set (i := 1) (pd_mt mt_splitD PySem.F.plainAttrs_str PySem.F.slot_str_split PySem.F.type_str_split (pd_var 0 (pv 0)) (pda_cons (pda_nil) (pd_str))) hB.nd) (pds_cons (pds_if ((pdw_or (pdt_cmp (op_neD' hB.rg) (pd_blt call_lenD (pda_cons (pda_nil) (pd_var 1 (pv 1))) M.z_len) (pd_int)) (pdw_or (pdt_not (pdt_val (pd_call (hR 1 (by decide)) M.d1.mg M.d1.kp M.d1.b hB (pda_cons (pda_nil) (pd_ix (pd_var 1 (pv 1)) (pd_int)))))) (pdw_or1 (pdt_not (pdt_val (pd_call (hR 1 (by decide)) M.d1.mg M.d1.kp M.d1.b hB (pda_cons (pda_nil) (pd_ix (pd_var 1 (pv 1)) (pd_int))))))))).t) (pds_one (pds_ret (pd_bl))) (pds_nil)) (pds_one (pds_ret (pd_and (pd_call (hR 2 (by decide)) M.d2.mg M.d2.kp M.d2.b hB (pda_cons (pda_nil) (pd_ix (pd_var 1 (pv 1)) (pd_int)))) (pd_one (pd_cmp (op_neD' hB.rg) (pd_ix (pd_var 1 (pv 1)) (pd_int)) (pd_str))))))))
set_option maxHeartbeats 4000000 in
theorem ok4 (M : Mod K mg fa fd) (hR : ∀ j, j < 26 → FnG P w K mg base k (fa j) (fd j) (psOf j) (spD ⟨K, mg⟩ (psOf j).length (R j))) : FnG P w K mg base (k + 1) (fa 4) (fd 4) (psOf 4) (spD ⟨K, mg⟩ (psOf 4).length (bodyOf 4 R)) :=
  fnD M.d4.F sc4 fun cdv A outer s H E hB hP => pds_one (pds_ret (pd_or (pd_call (hR 1 (by decide)) M.d1.mg M.d1.kp M.d1.b hB (pda_cons (pda_nil) (pd_var 0 (pv 0)))) (pd_one (pd_call (hR 3 (by decide)) M.d3.mg M.d3.kp M.d3.b hB (pda_cons (pda_nil) (pd_var 0 (pv 0)))))))
set_option maxHeartbeats 4000000 in
theorem ok5 (M : Mod K mg fa fd) (hR : ∀ j, j < 26 → FnG P w K mg base k (fa j) (fd j) (psOf j) (spD ⟨K, mg⟩ (psOf j).length (R j))) : FnG P w K mg base (k + 1) (fa 5) (fd 5) (psOf 5) (spD ⟨K, mg⟩ (psOf 5).length (bodyOf 5 R)) :=
  fnD M.d5.F sc5 fun cdv A outer s H E hB hP => pds_one (pds_ret (pd_and (pd_isi (pd_var 0 (pv 0)) M.z_isinstance M.z_str) (pd_one (pd_cmp (op_inD hB.rg) (pd_var 0 (pv 0)) (pd_gtupE M.g_MARKS)))))
set_option maxHeartbeats 4000000 in
theorem ok6 (M : Mod K mg fa fd) (hR : ∀ j, j < 26 → FnG P w K mg base k (fa j) (fd j) (psOf j) (spD ⟨K, mg⟩ (psOf j).length (R j))) : FnG P w K mg base (k + 1) (fa 6) (fd 6) (psOf 6) (spD ⟨K, mg⟩ (psOf 6).length (bodyOf 6 R)) :=
  fnD M.d6.F sc6 fun cdv A outer s H E hB hP => pds_one (pds_ret (pd_and (pd_isi (pd_var 0 (pv 0)) M.z_isinstance M.z_tuple) (pd_one (pd_blt (call_allD hB.calm) (pda_cons (pda_nil) (pd_lc (own := [("one", 1)]) (pdi_any (pd_var 0 (pv 0))) (fun _ _ _ _ _ => pdg_name (i := 1) hB.nd) (fun _ _ _ _ _ => pdts_nil) (fun _ _ _ _ _ => pd_call (hR 7 (by decide)) M.d7.mg M.d7.kp M.d7.b (hB.blk _ _ _ _ _ _) (pda_cons (pda_nil) (pd_var 1 (pv 1)))) hB.calm hB.nd (blkc_of (N := ["thing", "one"]) (sc := defScope s6) rfl rfl (by decide +kernel)))) M.z_all))))
set_option maxHeartbeats 4000000 in
theorem ok7 (M : Mod K mg fa fd) (hR : ∀ j, j < 26 → FnG P w K mg base k (fa j) (fd j) (psOf j) (spD ⟨K, mg⟩ (psOf j).length (R j))) : FnG P w K mg base (k + 1) (fa 7) (fd 7) (psOf 7) (spD ⟨K, mg⟩ (psOf 7).length (bodyOf 7 R)) :=
  fnD M.d7.F sc7 fun cdv A outer s H E hB hP => pds_cons (pds_if ((pdw_or (pdt_not (pdt_val (pd_isi (pd_var 0 (pv 0)) M.z_isinstance M.z_tuple))) (pdw_or (pdt_cmp op_ltD (pd_blt call_lenD (pda_cons (pda_nil) (pd_var 0 (pv 0))) M.z_len) (pd_int)) (pdw_or1 (pdt_not (pdt_val (pd_isi (pd_ix (pd_var 0 (pv 0)) (pd_int)) M.z_isinstance M.z_str)))))).t) (pds_one (pds_ret (pd_bl))) (pds_nil)) (pds_cons (pds_star (k := 2) (vs := [1, 2, 3]) (pd_var 0 (pv 0)) (pdgs_cons (pdgs_cons (pdgs_cons (pdgs_nil) (pdg_name (i := 3) hB.nd)) (pdg_name (i := 2) hB.nd)) (pdg_name (i := 1) hB.nd)) hB.calm) (pds_cons (pds_if (pdt_cmp (op_eqD' hB.rg) (pd_var 1 (pv 1)) (pd_gstrE M.g_AT)) (pds_one (pds_ret (pd_and (pd_cmp (op_eqD' hB.rg) (pd_var 3 (pv 3)) (pd_lst (pda_nil))) (pd_and (pd_call (hR 0 (by decide)) M.d0.mg M.d0.kp M.d0.b hB (pda_cons (pda_nil) (pd_var 2 (pv 2)))) (pd_one (pd_cmp op_geD (pd_var 2 (pv 2)) (pd_int))))))) (pds_nil)) (pds_cons (pds_if (pdt_cmp (op_eqD' hB.rg) (pd_var 1 (pv 1)) (pd_gstrE M.g_WORLD)) (pds_one (pds_ret (pd_and (pd_cmp (op_eqD' hB.rg) (pd_var 3 (pv 3)) (pd_lst (pda_nil))) (pd_and (pd_call (hR 0 (by decide)) M.d0.mg M.d0.kp M.d0.b hB (pda_cons (pda_nil) (pd_var 2 (pv 2)))) (pd_one (pd_chain op_leD op_leD (pd_int) (pd_var 2 (pv 2)) (pd_gintE M.g_MOST_WORLD))))))) (pds_nil)) (pds_cons (pds_if (pdt_cmp (op_inD hB.rg) (pd_var 1 (pv 1)) (pd_tup (pda_cons (pda_cons (pda_cons (pda_nil) (pd_gstrE M.g_GIVE)) (pd_gstrE M.g_FUN)) (pd_gstrE M.g_TO)))) (pds_one (pds_ret (pd_and (pd_cmp (op_eqD' hB.rg) (pd_blt call_lenD (pda_cons (pda_nil) (pd_var 3 (pv 3))) M.z_len) (pd_int)) (pd_and (pd_call (hR 5 (by decide)) M.d5.mg M.d5.kp M.d5.b hB (pda_cons (pda_nil) (pd_var 2 (pv 2)))) (pd_and (pd_call (hR 7 (by decide)) M.d7.mg M.d7.kp M.d7.b hB (pda_cons (pda_nil) (pd_ix (pd_var 3 (pv 3)) (pd_int)))) (pd_one (pd_call (hR 7 (by decide)) M.d7.mg M.d7.kp M.d7.b hB (pda_cons (pda_nil) (pd_ix (pd_var 3 (pv 3)) (pd_int)))))))))) (pds_nil)) (pds_cons (pds_if (pdt_cmp (op_inD hB.rg) (pd_var 1 (pv 1)) (pd_tup (pda_cons (pda_cons (pda_nil) (pd_gstrE M.g_CALL)) (pd_gstrE M.g_FAMILY)))) (pds_one (pds_ret (pd_and (pd_cmp (op_eqD' hB.rg) (pd_blt call_lenD (pda_cons (pda_nil) (pd_var 3 (pv 3))) M.z_len) (pd_int)) (pd_and (pd_call (hR 4 (by decide)) M.d4.mg M.d4.kp M.d4.b hB (pda_cons (pda_nil) (pd_var 2 (pv 2)))) (pd_one (pd_call (hR 6 (by decide)) M.d6.mg M.d6.kp M.d6.b hB (pda_cons (pda_nil) (pd_ix (pd_var 3 (pv 3)) (pd_int))))))))) (pds_nil)) (pds_cons (pds_if (pdt_cmp (op_eqD' hB.rg) (pd_var 1 (pv 1)) (pd_gstrE M.g_SHAPE)) (pds_one (pds_ret (pd_and (pd_cmp (op_eqD' hB.rg) (pd_blt call_lenD (pda_cons (pda_nil) (pd_var 3 (pv 3))) M.z_len) (pd_int)) (pd_and (pd_call (hR 4 (by decide)) M.d4.mg M.d4.kp M.d4.b hB (pda_cons (pda_nil) (pd_var 2 (pv 2)))) (pd_and (pd_call (hR 1 (by decide)) M.d1.mg M.d1.kp M.d1.b hB (pda_cons (pda_nil) (pd_ix (pd_var 3 (pv 3)) (pd_int)))) (pd_one (pd_call (hR 6 (by decide)) M.d6.mg M.d6.kp M.d6.b hB (pda_cons (pda_nil) (pd_ix (pd_var 3 (pv 3)) (pd_int)))))))))) (pds_nil)) (pds_one (pds_ret (pd_and (pd_cmp (op_eqD' hB.rg) (pd_var 1 (pv 1)) (pd_gstrE M.g_HOLE)) (pd_and (pd_cmp (op_eqD' hB.rg) (pd_var 3 (pv 3)) (pd_lst (pda_nil))) (pd_one (pd_call (hR 1 (by decide)) M.d1.mg M.d1.kp M.d1.b hB (pda_cons (pda_nil) (pd_var 2 (pv 2)))))))))))))))
set_option maxHeartbeats 4000000 in
theorem ok8 (M : Mod K mg fa fd) (hR : ∀ j, j < 26 → FnG P w K mg base k (fa j) (fd j) (psOf j) (spD ⟨K, mg⟩ (psOf j).length (R j))) : FnG P w K mg base (k + 1) (fa 8) (fd 8) (psOf 8) (spD ⟨K, mg⟩ (psOf 8).length (bodyOf 8 R)) :=
  fnD M.d8.F sc8 fun cdv A outer s H E hB hP => pds_cons (pds_set (i := 1) (pd_ty call_listD (pda_cons (pda_nil) (pd_slice (pd_var 0 (pv 0)) (pdo_none) (pdo_some (pd_int)))) M.z_list) hB.nd) (pds_one (pds_ret (pd_lstC (pda_cons (pda_cons (pda_cons (pda_nil) (pd_int)) (pd_op op_addD (pd_blt (call_sumD hB.calm) (pda_cons (pda_nil) (pd_lc (own := [("cell", 2)]) (pdi_any (pd_var 1 (pv 1))) (fun _ _ _ _ _ => pdg_name (i := 2) hB.nd) (fun _ _ _ _ _ => pdts_nil) (fun _ _ _ _ _ => pd_op op_modD (pd_var 2 (pv 2)) (pd_int)) hB.calm hB.nd (blkc_of (N := ["script", "cells", "cell"]) (sc := defScope s8) rfl rfl (by decide +kernel)))) M.z_sum) (pd_op op_mulD (pd_int) (pd_blt call_lenD (pda_cons (pda_nil) (pd_var 1 (pv 1))) M.z_len)))) (pd_revC (pd_var 1 (pv 1)))))))
set_option maxHeartbeats 4000000 in
theorem ok9 (M : Mod K mg fa fd) (hR : ∀ j, j < 26 → FnG P w K mg base k (fa j) (fd j) (psOf j) (spD ⟨K, mg⟩ (psOf j).length (R j))) : FnG P w K mg base (k + 1) (fa 9) (fd 9) (psOf 9) (spD ⟨K, mg⟩ (psOf 9).length (bodyOf 9 R)) :=
  fnD M.d9.F sc9 fun cdv A outer s H E hB hP => pds_cons (pds_setIx (pd_op op_addD (pd_ix (pd_var 0 (pv 0)) (pd_int)) (pd_int)) (pd_var 0 (pv 0)) (pd_int)) (pds_cons (pds_set (i := 2) (pd_ix (pd_var 0 (pv 0)) (pd_int)) hB.nd) (pds_cons (pds_if (pdt_cmp (op_neD' hB.rg) (pd_ix (pd_var 0 (pv 0)) (pd_int)) (pd_lst (pda_nil))) (pds_cons (pds_set (i := 2) (pd_mt0 mt_popD PySem.F.plainAttrs_list PySem.F.slot_list_pop PySem.F.type_list_pop (pd_ix (pd_var 0 (pv 0)) (pd_int))) hB.nd) (pds_one (pds_if (pdt_cmp op_geD (pd_var 2 (pv 2)) (pd_op op_powD (pd_int) (pd_int))) (pds_cons (pds_expr (pd_mt mt_appendD PySem.F.plainAttrs_list PySem.F.slot_list_append PySem.F.type_list_append (pd_ix (pd_var 0 (pv 0)) (pd_int)) (pda_cons (pda_nil) (pd_op op_fdivD (pd_var 2 (pv 2)) (pd_var 1 (pv 1)))))) (pds_one (pds_ret (pd_op op_modD (pd_var 2 (pv 2)) (pd_var 1 (pv 1)))))) (pds_nil)))) (pds_nil)) (pds_cons (pds_set (i := 3) (pd_op op_modD (pd_op op_mulD (pd_op op_addD (pd_op op_addD (pd_op op_modD (pd_var 2 (pv 2)) (pd_int)) (pd_op op_mulD (pd_int) (pd_ix (pd_var 0 (pv 0)) (pd_int)))) (pd_int)) (pd_int)) (pd_int)) hB.nd) (pds_cons (pds_set (i := 3) (pd_op op_modD (pd_op op_addD (pd_op op_addD (pd_op op_mulD (pd_var 3 (pv 3)) (pd_var 3 (pv 3))) (pd_op op_mulD (pd_int) (pd_ix (pd_var 0 (pv 0)) (pd_int)))) (pd_int)) (pd_int)) hB.nd) (pds_one (pds_ret (pd_op op_modD (pd_op op_fdivD (pd_op op_modD (pd_op op_addD (pd_op op_mulD (pd_var 3 (pv 3)) (pd_var 3 (pv 3))) (pd_op op_mulD (pd_int) (pd_var 3 (pv 3)))) (pd_int)) (pd_int)) (pd_var 1 (pv 1)))))))))
set_option maxHeartbeats 4000000 in
theorem ok10 (M : Mod K mg fa fd) (hR : ∀ j, j < 26 → FnG P w K mg base k (fa j) (fd j) (psOf j) (spD ⟨K, mg⟩ (psOf j).length (R j))) : FnG P w K mg base (k + 1) (fa 10) (fd 10) (psOf 10) (spD ⟨K, mg⟩ (psOf 10).length (bodyOf 10 R)) :=
  fnD M.d10.F sc10 fun cdv A outer s H E hB hP => pds_cons (pds_set (i := 1) (pd_str) hB.nd) (pds_cons (pds_set (i := 2) (pd_ix (pd_lst (pda_cons (pda_cons (pda_cons (pda_cons (pda_nil) (pd_int)) (pd_op op_addD (pd_int) (pd_call (hR 9 (by decide)) M.d9.mg M.d9.kp M.d9.b hB (pda_cons (pda_cons (pda_nil) (pd_int)) (pd_var 0 (pv 0)))))) (pd_int)) (pd_int))) (pd_call (hR 9 (by decide)) M.d9.mg M.d9.kp M.d9.b hB (pda_cons (pda_cons (pda_nil) (pd_int)) (pd_var 0 (pv 0))))) hB.nd) (pds_cons (pds_set (i := 3) (pd_call (hR 9 (by decide)) M.d9.mg M.d9.kp M.d9.b hB (pda_cons (pda_cons (pda_nil) (pd_int)) (pd_var 0 (pv 0)))) hB.nd) (pds_cons (pds_set (i := 4) (pd_call (hR 9 (by decide)) M.d9.mg M.d9.kp M.d9.b hB (pda_cons (pda_cons (pda_nil) (pd_int)) (pd_var 0 (pv 0)))) hB.nd) (pds_one (pds_ret (pd_mt mt_joinD PySem.F.plainAttrs_str PySem.F.slot_str_join PySem.F.type_str_join (pd_str) (pda_cons (pda_nil) (pd_lc (own := [("k", 5)]) (pdi_rng1 (pd_var 2 (pv 2)) M.z_range) (fun _ _ _ _ _ => pdg_name (i := 5) hB.nd) (fun _ _ _ _ _ => pdts_nil) (fun _ _ _ _ _ => pd_ix (pd_var 1 (pv 1)) (pd_op op_modD (pd_op op_addD (pd_var 3 (pv 3)) (pd_op op_mulD (pd_var 4 (pv 4)) (pd_var 5 (pv 5)))) (pd_int))) hB.calm hB.nd (blkc_of (N := ["deck", "letters", "many", "first", "step", "k"]) (sc := defScope s10) rfl rfl (by decide +kernel))))))))))
set_option maxHeartbeats 4000000 in
theorem ok11 (M : Mod K mg fa fd) (hR : ∀ j, j < 26 → FnG P w K mg base k (fa j) (fd j) (psOf j) (spD ⟨K, mg⟩ (psOf j).length (R j))) : FnG P w K mg base (k + 1) (fa 11) (fd 11) (psOf 11) (spD ⟨K, mg⟩ (psOf 11).length (bodyOf 11 R)) :=
  fnD M.d11.F sc11 fun cdv A outer s H E hB hP => pds_cons (pds_set (i := 1) (pd_ix (pd_lst (pda_cons (pda_cons (pda_cons (pda_cons (pda_cons (pda_nil) (pd_op op_powD (pd_int) (pd_int))) (pd_op op_addD (pd_int) (pd_call (hR 9 (by decide)) M.d9.mg M.d9.kp M.d9.b hB (pda_cons (pda_cons (pda_nil) (pd_int)) (pd_var 0 (pv 0)))))) (pd_int)) (pd_int)) (pd_int))) (pd_call (hR 9 (by decide)) M.d9.mg M.d9.kp M.d9.b hB (pda_cons (pda_cons (pda_nil) (pd_int)) (pd_var 0 (pv 0))))) hB.nd) (pds_one (pds_ret (pd_op op_addD (pd_op op_addD (pd_op op_addD (pd_op op_addD (pd_call (hR 10 (by decide)) M.d10.mg M.d10.kp M.d10.b hB (pda_cons (pda_nil) (pd_var 0 (pv 0)))) (pd_str)) (pd_ty call_strD (pda_cons (pda_nil) (pd_var 1 (pv 1))) M.z_str)) (pd_str)) (pd_call (hR 10 (by decide)) M.d10.mg M.d10.kp M.d10.b hB (pda_cons (pda_nil) (pd_var 0 (pv 0)))))))
set_option maxHeartbeats 4000000 in
theorem ok12 (M : Mod K mg fa fd) (hR : ∀ j, j < 26 → FnG P w K mg base k (fa j) (fd j) (psOf j) (spD ⟨K, mg⟩ (psOf j).length (R j))) : FnG P w K mg base (k + 1) (fa 12) (fd 12) (psOf 12) (spD ⟨K, mg⟩ (psOf 12).length (bodyOf 12 R)) :=
  fnD M.d12.F sc12 fun cdv A outer s H E hB hP => pds_one (pds_ret (pd_if (pdt_cmp (op_eqD' hB.rg) (pd_call (hR 9 (by decide)) M.d9.mg M.d9.kp M.d9.b hB (pda_cons (pda_cons (pda_nil) (pd_int)) (pd_var 0 (pv 0)))) (pd_int)) (pd_call (hR 11 (by decide)) M.d11.mg M.d11.kp M.d11.b hB (pda_cons (pda_nil) (pd_var 0 (pv 0)))) (pd_call (hR 10 (by decide)) M.d10.mg M.d10.kp M.d10.b hB (pda_cons (pda_nil) (pd_var 0 (pv 0))))))
set_option maxHeartbeats 4000000 in
theorem ok13 (M : Mod K mg fa fd) (hR : ∀ j, j < 26 → FnG P w K mg base k (fa j) (fd j) (psOf j) (spD ⟨K, mg⟩ (psOf j).length (R j))) : FnG P w K mg base (k + 1) (fa 13) (fd 13) (psOf 13) (spD ⟨K, mg⟩ (psOf 13).length (bodyOf 13 R)) :=
  fnD M.d13.F sc13 fun cdv A outer s H E hB hP => pds_cons (pds_set (i := 1) (pd_call (hR 9 (by decide)) M.d9.mg M.d9.kp M.d9.b hB (pda_cons (pda_cons (pda_nil) (pd_int)) (pd_var 0 (pv 0)))) hB.nd) (pds_cons (pds_set (i := 2) (pd_ix (pd_lst (pda_cons (pda_cons (pda_cons (pda_nil) (pd_op op_powD (pd_int) (pd_int))) (pd_call (hR 9 (by decide)) M.d9.mg M.d9.kp M.d9.b hB (pda_cons (pda_cons (pda_nil) (pd_int)) (pd_var 0 (pv 0))))) (pd_call (hR 9 (by decide)) M.d9.mg M.d9.kp M.d9.b hB (pda_cons (pda_cons (pda_nil) (pd_int)) (pd_var 0 (pv 0)))))) (pd_call (hR 9 (by decide)) M.d9.mg M.d9.kp M.d9.b hB (pda_cons (pda_cons (pda_nil) (pd_int)) (pd_var 0 (pv 0))))) hB.nd) (pds_one (pds_ret (pd_ix (pd_lst (pda_cons (pda_cons (pda_cons (pda_nil) (pd_tup (pda_cons (pda_cons (pda_nil) (pd_call (hR 10 (by decide)) M.d10.mg M.d10.kp M.d10.b hB (pda_cons (pda_nil) (pd_var 0 (pv 0))))) (pd_str)))) (pd_tup (pda_cons (pda_cons (pda_nil) (pd_call (hR 9 (by decide)) M.d9.mg M.d9.kp M.d9.b hB (pda_cons (pda_cons (pda_nil) (pd_int)) (pd_var 0 (pv 0))))) (pd_str)))) (pd_tup (pda_cons (pda_cons (pda_nil) (pd_var 2 (pv 2))) (pd_str))))) (pd_var 1 (pv 1))))))
set_option maxHeartbeats 4000000 in
theorem ok14 (M : Mod K mg fa fd) (hR : ∀ j, j < 26 → FnG P w K mg base k (fa j) (fd j) (psOf j) (spD ⟨K, mg⟩ (psOf j).length (R j))) : FnG P w K mg base (k + 1) (fa 14) (fd 14) (psOf 14) (spD ⟨K, mg⟩ (psOf 14).length (bodyOf 14 R)) :=
  fnD M.d14.F sc14 fun cdv A outer s H E hB hP => pds_cons (pds_par (i := 5) (j := 6) (pd_call (hR 9 (by decide)) M.d9.mg M.d9.kp M.d9.b hB (pda_cons (pda_cons (pda_nil) (pd_int)) (pd_var 0 (pv 0)))) (pd_call (hR 9 (by decide)) M.d9.mg M.d9.kp M.d9.b hB (pda_cons (pda_cons (pda_nil) (pd_int)) (pd_var 0 (pv 0)))) hB.calm hB.nd) (pds_cons (pds_if ((pdw_or (pdt_cmp (op_eqD' hB.rg) (pd_var 1 (pv 1)) (pd_int)) (pdw_or (pdt_cmp op_ltD (pd_var 5 (pv 5)) (pd_int)) (pdw_or1 (pdt_cmp op_ltD (pd_ix (pd_var 2 (pv 2)) (pd_int)) (pd_int))))).t) (pds_one (pds_ret (pd_call (hR 13 (by decide)) M.d13.mg M.d13.kp M.d13.b hB (pda_cons (pda_nil) (pd_var 0 (pv 0)))))) (pds_nil)) (pds_cons (pds_set (i := 3) (pd_if (pdt_cmp op_ltD (pd_var 5 (pv 5)) (pd_int)) (pd_int) (pd_blt (call_minD hB.calm) (pda_cons (pda_cons (pda_nil) (pd_ix (pd_var 2 (pv 2)) (pd_int))) (pd_var 6 (pv 6))) M.z_min)) hB.nd) (pds_cons (pds_setIx (pd_op op_subD (pd_ix (pd_var 2 (pv 2)) (pd_int)) (pd_var 3 (pv 3))) (pd_var 2 (pv 2)) (pd_int)) (pds_cons (pds_set (i := 4) (pd_ty call_tupD (pda_cons (pda_nil) (pd_lc (own := [("k", 7)]) (pdi_rng1 (pd_var 3 (pv 3)) M.z_range) (fun _ _ _ _ _ => pdg_name (i := 7) hB.nd) (fun _ _ _ _ _ => pdts_nil) (fun _ _ _ _ _ => pd_call (hR 14 (by decide)) M.d14.mg M.d14.kp M.d14.b (hB.blk _ _ _ _ _ _) (pda_cons (pda_cons (pda_cons (pda_nil) (pd_var 2 (pv 2))) (pd_op op_subD (pd_var 1 (pv 1)) (pd_int))) (pd_var 0 (pv 0)))) hB.calm hB.nd (blkc_of (N := ["deck", "deep", "left", "many", "parts", "way", "wanted", "k"]) (sc := defScope s14) rfl rfl (by decide +kernel)))) M.z_tuple) hB.nd) (pds_cons (pds_if (pdt_cmp op_ltD (pd_var 5 (pv 5)) (pd_int)) (pds_one (pds_ret (pd_op op_addD (pd_tup (pda_cons (pda_cons (pda_nil) (pd_ix (pd_lst (pda_cons (pda_cons (pda_nil) (pd_str)) (pd_str))) (pd_call (hR 9 (by decide)) M.d9.mg M.d9.kp M.d9.b hB (pda_cons (pda_cons (pda_nil) (pd_int)) (pd_var 0 (pv 0)))))) (pd_ix (pd_lst (pda_cons (pda_cons (pda_cons (pda_cons (pda_nil) (pd_str)) (pd_str)) (pd_str)) (pd_str))) (pd_op op_subD (pd_var 5 (pv 5)) (pd_int))))) (pd_var 4 (pv 4))))) (pds_nil)) (pds_cons (pds_if (pdt_cmp (op_eqD' hB.rg) (pd_var 5 (pv 5)) (pd_int)) (pds_one (pds_ret (pd_tup (pda_cons (pda_cons (pda_cons (pda_cons (pda_nil) (pd_var 4 (pv 4))) (pd_call (hR 10 (by decide)) M.d10.mg M.d10.kp M.d10.b hB (pda_cons (pda_nil) (pd_var 0 (pv 0))))) (pd_call (hR 12 (by decide)) M.d12.mg M.d12.kp M.d12.b hB (pda_cons (pda_nil) (pd_var 0 (pv 0))))) (pd_str))))) (pds_nil)) (pds_one (pds_ret (pd_tup (pda_cons (pda_cons (pda_cons (pda_nil) (pd_var 4 (pv 4))) (pd_call (hR 12 (by decide)) M.d12.mg M.d12.kp M.d12.b hB (pda_cons (pda_nil) (pd_var 0 (pv 0))))) (pd_ix (pd_lst (pda_cons (pda_cons (pda_nil) (pd_str)) (pd_str))) (pd_op op_subD (pd_var 5 (pv 5)) (pd_int)))))))))))))
set_option maxHeartbeats 4000000 in
theorem ok15 (M : Mod K mg fa fd) (hR : ∀ j, j < 26 → FnG P w K mg base k (fa j) (fd j) (psOf j) (spD ⟨K, mg⟩ (psOf j).length (R j))) : FnG P w K mg base (k + 1) (fa 15) (fd 15) (psOf 15) (spD ⟨K, mg⟩ (psOf 15).length (bodyOf 15 R)) :=
  fnD M.d15.F sc15 fun cdv A outer s H E hB hP => pds_cons (pds_set (i := 2) (pd_call (hR 9 (by decide)) M.d9.mg M.d9.kp M.d9.b hB (pda_cons (pda_cons (pda_nil) (pd_int)) (pd_var 0 (pv 0)))) hB.nd) (pds_cons (pds_set (i := 3) (pd_lst (pda_cons (pda_cons (pda_cons (pda_cons (pda_cons (pda_cons (pda_cons (pda_cons (pda_cons (pda_cons (pda_cons (pda_cons (pda_cons (pda_cons (pda_cons (pda_nil) (pd_int)) (pd_str)) (pd_lst (pda_cons (pda_cons (pda_nil) (pd_int)) (pd_str)))) (pd_tup (pda_cons (pda_cons (pda_nil) (pd_int)) (pd_str)))) (pd_tup (pda_cons (pda_nil) (pd_str)))) (pd_dnew)) (pd_lst (pda_nil))) (pd_tup (pda_nil))) (pd_str)) (pd_str)) (pd_neg (pd_int))) (pd_int)) (pd_bl)) (pd_bl)) (pd_non))) hB.nd) (pds_cons (pds_if (pdt_cmp (op_eqD' hB.rg) (pd_call (hR 9 (by decide)) M.d9.mg M.d9.kp M.d9.b hB (pda_cons (pda_cons (pda_nil) (pd_int)) (pd_var 0 (pv 0)))) (pd_int)) (pds_one (pds_ret (pd_ix (pd_var 3 (pv 3)) (pd_call (hR 9 (by decide)) M.d9.mg M.d9.kp M.d9.b hB (pda_cons (pda_cons (pda_nil) (pd_int)) (pd_var 0 (pv 0))))))) (pds_nil)) (pds_cons (pds_if (pdt_val (pd_isi (pd_var 1 (pv 1)) M.z_isinstance M.z_str)) (pds_cons (pds_set (i := 5) (pd_lst (pda_cons (pda_cons (pda_cons (pda_cons (pda_cons (pda_cons (pda_cons (pda_cons (pda_cons (pda_nil) (pd_str)) (pd_tup (pda_cons (pda_nil) (pd_var 1 (pv 1))))) (pd_lst (pda_cons (pda_nil) (pd_var 1 (pv 1))))) (pd_str)) (pd_str)) (pd_op op_addD (pd_var 1 (pv 1)) (pd_str))) (pd_mt0 mt_upperD PySem.F.plainAttrs_str PySem.F.slot_str_upper PySem.F.type_str_upper (pd_var 1 (pv 1)))) (pd_slice (pd_var 1 (pv 1)) (pdo_none) (pdo_some (pd_neg (pd_int))))) (pd_op op_addD (pd_var 1 (pv 1)) (pd_str)))) hB.nd) (pds_one (pds_ret (pd_ix (pd_var 5 (pv 5)) (pd_var 2 (pv 2)))))) (pds_nil)) (pds_cons (pds_if (pdt_val (pd_isi (pd_var 1 (pv 1)) M.z_isinstance M.z_int)) (pds_cons (pds_set (i := 5) (pd_lst (pda_cons (pda_cons (pda_cons (pda_cons (pda_cons (pda_cons (pda_cons (pda_cons (pda_cons (pda_nil) (pd_tup (pda_cons (pda_nil) (pd_var 1 (pv 1))))) (pd_op op_addD (pd_var 1 (pv 1)) (pd_int))) (pd_non)) (pd_lst (pda_cons (pda_nil) (pd_var 1 (pv 1))))) (pd_ty call_strD (pda_cons (pda_nil) (pd_var 1 (pv 1))) M.z_str)) (pd_cmp (op_eqD' hB.rg) (pd_var 1 (pv 1)) (pd_int))) (pd_op op_subD (pd_neg (pd_int)) (pd_var 1 (pv 1)))) (pd_op op_subD (pd_var 1 (pv 1)) (pd_int))) (pd_op op_addD (pd_var 1 (pv 1)) (pd_int)))) hB.nd) (pds_one (pds_ret (pd_ix (pd_var 5 (pv 5)) (pd_var 2 (pv 2)))))) (pds_nil)) (pds_cons (pds_if ((pdw_or (pdt_not (pdt_val (pd_isi (pd_var 1 (pv 1)) M.z_isinstance M.z_tuple))) (pdw_or1 (pdt_cmp (op_eqD' hB.rg) (pd_var 1 (pv 1)) (pd_tup (pda_nil))))).t) (pds_one (pds_ret (pd_ix (pd_var 3 (pv 3)) (pd_var 2 (pv 2))))) (pds_nil)) (pds_cons (pds_set (i := 4) (pd_call (hR 9 (by decide)) M.d9.mg M.d9.kp M.d9.b hB (pda_cons (pda_cons (pda_nil) (pd_blt call_lenD (pda_cons (pda_nil) (pd_var 1 (pv 1))) M.z_len)) (pd_var 0 (pv 0)))) hB.nd) (pds_cons (pds_set (i := 5) (pd_lst (pda_cons (pda_cons (pda_cons (pda_cons (pda_cons (pda_nil) (pd_op op_addD (pd_var 1 (pv 1)) (pd_tup (pda_cons (pda_nil) (pd_tup (pda_cons (pda_cons (pda_nil) (pd_int)) (pd_str))))))) (pd_ty call_listD (pda_cons (pda_nil) (pd_var 1 (pv 1))) M.z_list)) (pd_rev (pd_var 1 (pv 1)))) (pd_op op_addD (pd_slice (pd_var 1 (pv 1)) (pdo_none) (pdo_some (pd_op op_addD (pd_var 4 (pv 4)) (pd_int)))) (pd_slice (pd_var 1 (pv 1)) (pdo_some (pd_var 4 (pv 4))) (pdo_none)))) (pd_op op_addD (pd_slice (pd_var 1 (pv 1)) (pdo_none) (pdo_some (pd_var 4 (pv 4)))) (pd_slice (pd_var 1 (pv 1)) (pdo_some (pd_op op_addD (pd_var 4 (pv 4)) (pd_int))) (pdo_none))))) hB.nd) (pds_one (pds_ret (pd_ix (pd_op op_addD (pd_var 5 (pv 5)) (pd_lst (pda_cons (pda_cons (pda_cons (pda_cons (pda_nil) (pd_disp (.cons (pd_int) (pd_var 1 (pv 1)) (.nil)))) (pd_op op_addD (pd_var 1 (pv 1)) (pd_tup (pda_cons (pda_nil) (pd_int))))) (pd_tup (pda_cons (pda_nil) (pd_var 1 (pv 1))))) (pd_slice (pd_var 1 (pv 1)) (pdo_none) (pdo_some (pd_neg (pd_int))))))) (pd_var 2 (pv 2))))))))))))
set_option maxHeartbeats 4000000 in
theorem ok16 (M : Mod K mg fa fd) (hR : ∀ j, j < 26 → FnG P w K mg base k (fa j) (fd j) (psOf j) (spD ⟨K, mg⟩ (psOf j).length (R j))) : FnG P w K mg base (k + 1) (fa 16) (fd 16) (psOf 16) (spD ⟨K, mg⟩ (psOf 16).length (bodyOf 16 R)) :=
  fnD M.d16.F sc16 fun cdv A outer s H E hB hP => pds_cons (pds_par (i := 2) (j := 3) (pd_call (hR 9 (by decide)) M.d9.mg M.d9.kp M.d9.b hB (pda_cons (pda_cons (pda_nil) (pd_int)) (pd_var 0 (pv 0)))) (pd_cmp (op_eqD' hB.rg) (pd_call (hR 9 (by decide)) M.d9.mg M.d9.kp M.d9.b hB (pda_cons (pda_cons (pda_nil) (pd_int)) (pd_var 0 (pv 0)))) (pd_int)) hB.calm hB.nd) (pds_cons (pds_if ((pdw_and (pdt_val (pd_isi (pd_var 1 (pv 1)) M.z_isinstance M.z_tuple)) (pdw_and (pdt_cmp (op_neD' hB.rg) (pd_var 1 (pv 1)) (pd_tup (pda_nil))) (pdw_and1 (pdt_cmp op_ltD (pd_var 2 (pv 2)) (pd_int))))).t) (pds_cons (pds_set (i := 4) (pd_ix (pd_lst (pda_cons (pda_cons (pda_nil) (pd_op op_subD (pd_blt call_lenD (pda_cons (pda_nil) (pd_var 1 (pv 1))) M.z_len) (pd_int))) (pd_call (hR 9 (by decide)) M.d9.mg M.d9.kp M.d9.b hB (pda_cons (pda_cons (pda_nil) (pd_blt call_lenD (pda_cons (pda_nil) (pd_var 1 (pv 1))) M.z_len)) (pd_var 0 (pv 0)))))) (pd_ty call_intD (pda_cons (pda_nil) (pd_var 3 (pv 3))) M.z_int)) hB.nd) (pds_one (pds_ret (pd_op op_addD (pd_op op_addD (pd_slice (pd_var 1 (pv 1)) (pdo_none) (pdo_some (pd_var 4 (pv 4)))) (pd_tup (pda_cons (pda_nil) (pd_call (hR 16 (by decide)) M.d16.mg M.d16.kp M.d16.b hB (pda_cons (pda_cons (pda_nil) (pd_ix (pd_var 1 (pv 1)) (pd_var 4 (pv 4)))) (pd_var 0 (pv 0))))))) (pd_slice (pd_var 1 (pv 1)) (pdo_some (pd_op op_addD (pd_var 4 (pv 4)) (pd_int))) (pdo_none)))))) (pds_nil)) (pds_one (pds_ret (pd_call (hR 15 (by decide)) M.d15.mg M.d15.kp M.d15.b hB (pda_cons (pda_cons (pda_nil) (pd_var 1 (pv 1))) (pd_var 0 (pv 0)))))))
set_option maxHeartbeats 4000000 in
theorem ok17 (M : Mod K mg fa fd) (hR : ∀ j, j < 26 → FnG P w K mg base k (fa j) (fd j) (psOf j) (spD ⟨K, mg⟩ (psOf j).length (R j))) : FnG P w K mg base (k + 1) (fa 17) (fd 17) (psOf 17) (spD ⟨K, mg⟩ (psOf 17).length (bodyOf 17 R)) :=
  fnD M.d17.F sc17 fun cdv A outer s H E hB hP => pds_one (pds_ret (pd_and (pd_isi (pd_var 0 (pv 0)) M.z_isinstance M.z_int) (pd_one (pd_not (pd_isi (pd_var 0 (pv 0)) M.z_isinstance M.z_bool)))))
set_option maxHeartbeats 4000000 in
theorem ok18 (M : Mod K mg fa fd) (hR : ∀ j, j < 26 → FnG P w K mg base k (fa j) (fd j) (psOf j) (spD ⟨K, mg⟩ (psOf j).length (R j))) : FnG P w K mg base (k + 1) (fa 18) (fd 18) (psOf 18) (spD ⟨K, mg⟩ (psOf 18).length (bodyOf 18 R)) :=
  fnD M.d18.F sc18 fun cdv A outer s H E hB hP => pds_cons (pds_if ((pdw_or (pdt_not (pdt_val (pd_isi (pd_var 0 (pv 0)) M.z_isinstance M.z_str))) (pdw_or (pdt_cmp (op_eqD' hB.rg) (pd_var 0 (pv 0)) (pd_str)) (pdw_or1 (pdt_cmp op_gtD (pd_blt call_lenD (pda_cons (pda_nil) (pd_var 0 (pv 0))) M.z_len) (pd_int))))).t) (pds_one (pds_ret (pd_bl))) (pds_nil)) (pds_one (pds_ret (pd_cmp (op_eqD' hB.rg) (pd_lc (own := [("sign", 1)]) (pdi_any (pd_var 0 (pv 0))) (fun _ _ _ _ _ => pdg_name (i := 1) hB.nd) (fun _ _ _ _ _ => pdts_one (pdt_not (pdt_chain op_leD op_leD (pd_str) (pd_var 1 (pv 1)) (pd_str)))) (fun _ _ _ _ _ => pd_var 1 (pv 1)) hB.calm hB.nd (blkc_of (N := ["thing", "sign"]) (sc := defScope s18) rfl rfl (by decide +kernel))) (pd_lst (pda_nil)))))
set_option maxHeartbeats 4000000 in
theorem ok19 (M : Mod K mg fa fd) (hR : ∀ j, j < 26 → FnG P w K mg base k (fa j) (fd j) (psOf j) (spD ⟨K, mg⟩ (psOf j).length (R j))) : FnG P w K mg base (k + 1) (fa 19) (fd 19) (psOf 19) (spD ⟨K, mg⟩ (psOf 19).length (bodyOf 19 R)) :=
  fnD M.d19.F sc19 fun cdv A outer s H E hB hP => pds_cons (pds_if ((pdw_or (pdt_not (pdt_val (pd_isi (pd_var 0 (pv 0)) M.z_isinstance M.z_str))) (pdw_or1 (pdt_cmp (op_neD' hB.rg) (pd_mt mt_countD PySem.F.plainAttrs_str PySem.F.slot_str_count PySem.F.type_str_count (pd_var 0 (pv 0)) (pda_cons (pda_nil) (pd_str))) (pd_int)))).t) (pds_one (pds_ret (pd_bl))) (pds_nil)) (pds_cons (pds_asg (vs := [1, 2, 3]) (pd_mt mt_splitD PySem.F.plainAttrs_str PySem.F.slot_str_split PySem.F.type_str_split (pd_var 0 (pv 0)) (pda_cons (pda_nil) (pd_str))) (pdg_lst (pdgs_cons (pdgs_cons (pdgs_cons (pdgs_nil) (pdg_name (i := 3) hB.nd)) (pdg_name (i := 2) hB.nd)) (pdg_name (i := 1) hB.nd)) hB.calm)) (pds_cons (pds_if ((pdw_or (pdt_cmp (op_inD hB.rg) (pd_slice (pd_var 2 (pv 2)) (pdo_none) (pdo_some (pd_int))) (pd_tup (pda_cons (pda_cons (pda_nil) (pd_str)) (pd_str)))) (pdw_or (pdt_cmp op_gtD (pd_blt call_lenD (pda_cons (pda_nil) (pd_var 2 (pv 2))) M.z_len) (pd_int)) (pdw_or1 (pdt_cmp (op_neD' hB.rg) (pd_lc (own := [("sign", 4)]) (pdi_any (pd_var 2 (pv 2))) (fun _ _ _ _ _ => pdg_name (i := 4) hB.nd) (fun _ _ _ _ _ => pdts_one (pdt_cmp (op_notInD hB.rg) (pd_var 4 (pv 4)) (pd_str))) (fun _ _ _ _ _ => pd_var 4 (pv 4)) hB.calm hB.nd (blkc_of (N := ["thing", "first", "number", "last", "sign"]) (sc := defScope s19) rfl rfl (by decide +kernel))) (pd_lst (pda_nil)))))).t) (pds_one (pds_ret (pd_bl))) (pds_nil)) (pds_one (pds_ret (pd_and (pd_call (hR 18 (by decide)) M.d18.mg M.d18.kp M.d18.b hB (pda_cons (pda_nil) (pd_var 1 (pv 1)))) (pd_one (pd_call (hR 18 (by decide)) M.d18.mg M.d18.kp M.d18.b hB (pda_cons (pda_nil) (pd_var 3 (pv 3))))))))))
set_option maxHeartbeats 4000000 in
theorem ok20 (M : Mod K mg fa fd) (hR : ∀ j, j < 26 → FnG P w K mg base k (fa j) (fd j) (psOf j) (spD ⟨K, mg⟩ (psOf j).length (R j))) : FnG P w K mg base (k + 1) (fa 20) (fd 20) (psOf 20) (spD ⟨K, mg⟩ (psOf 20).length (bodyOf 20 R)) :=
  fnD M.d20.F sc20 fun cdv A outer s H E hB hP => pds_one (pds_ret (pd_and (pd_isi (pd_var 0 (pv 0)) M.z_isinstance M.z_str) (pd_one (pd_cmp (op_inD hB.rg) (pd_var 0 (pv 0)) (pd_tup (pda_cons (pda_cons (pda_nil) (pd_str)) (pd_str)))))))
set_option maxHeartbeats 4000000 in
theorem ok21 (M : Mod K mg fa fd) (hR : ∀ j, j < 26 → FnG P w K mg base k (fa j) (fd j) (psOf j) (spD ⟨K, mg⟩ (psOf j).length (R j))) : FnG P w K mg base (k + 1) (fa 21) (fd 21) (psOf 21) (spD ⟨K, mg⟩ (psOf 21).length (bodyOf 21 R)) :=
  fnD M.d21.F sc21 fun cdv A outer s H E hB hP => pds_one (pds_ret (pd_and (pd_isi (pd_var 0 (pv 0)) M.z_isinstance M.z_tuple) (pd_one (pd_cmp (op_eqD' hB.rg) (pd_lc (own := [("one", 1)]) (pdi_any (pd_var 0 (pv 0))) (fun _ _ _ _ _ => pdg_name (i := 1) hB.nd) (fun _ _ _ _ _ => pdts_one (pdt_not (pdt_val (pd_call (hR 22 (by decide)) M.d22.mg M.d22.kp M.d22.b (hB.blk _ _ _ _ _ _) (pda_cons (pda_nil) (pd_var 1 (pv 1))))))) (fun _ _ _ _ _ => pd_var 1 (pv 1)) hB.calm hB.nd (blkc_of (N := ["thing", "one"]) (sc := defScope s21) rfl rfl (by decide +kernel))) (pd_lst (pda_nil))))))
set_option maxHeartbeats 4000000 in
theorem ok22 (M : Mod K mg fa fd) (hR : ∀ j, j < 26 → FnG P w K mg base k (fa j) (fd j) (psOf j) (spD ⟨K, mg⟩ (psOf j).length (R j))) : FnG P w K mg base (k + 1) (fa 22) (fd 22) (psOf 22) (spD ⟨K, mg⟩ (psOf 22).length (bodyOf 22 R)) :=
  fnD M.d22.F sc22 fun cdv A outer s H E hB hP => pds_cons (pds_if ((pdw_or (pdt_not (pdt_val (pd_isi (pd_var 0 (pv 0)) M.z_isinstance M.z_tuple))) (pdw_or (pdt_cmp (op_eqD' hB.rg) (pd_var 0 (pv 0)) (pd_tup (pda_nil))) (pdw_or1 (pdt_not (pdt_val (pd_isi (pd_ix (pd_var 0 (pv 0)) (pd_int)) M.z_isinstance M.z_str)))))).t) (pds_one (pds_ret (pd_bl))) (pds_nil)) (pds_cons (pds_par (i := 1) (j := 2) (pd_ix (pd_var 0 (pv 0)) (pd_int)) (pd_blt call_lenD (pda_cons (pda_nil) (pd_var 0 (pv 0))) M.z_len) hB.calm hB.nd) (pds_cons (pds_if (pdt_cmp (op_inD hB.rg) (pd_var 1 (pv 1)) (pd_tup (pda_cons (pda_cons (pda_nil) (pd_str)) (pd_str)))) (pds_cons (pds_set (i := 3) (pd_and (pd_cmp (op_eqD' hB.rg) (pd_var 2 (pv 2)) (pd_int)) (pd_and (pd_call (hR 17 (by decide)) M.d17.mg M.d17.kp M.d17.b hB (pda_cons (pda_nil) (pd_ix (pd_var 0 (pv 0)) (pd_int)))) (pd_one (pd_cmp op_geD (pd_ix (pd_var 0 (pv 0)) (pd_int)) (pd_int))))) hB.nd) (pds_one (pds_ret (pd_and (pd_var 3 (pv 3)) (pd_one (pd_or (pd_cmp (op_eqD' hB.rg) (pd_var 1 (pv 1)) (pd_str)) (pd_one (pd_cmp op_ltD (pd_ix (pd_var 0 (pv 0)) (pd_int)) (pd_int))))))))) (pds_nil)) (pds_cons (pds_if (pdt_cmp (op_inD hB.rg) (pd_var 1 (pv 1)) (pd_tup (pda_cons (pda_cons (pda_cons (pda_nil) (pd_str)) (pd_str)) (pd_str)))) (pds_one (pds_ret (pd_and (pd_cmp (op_eqD' hB.rg) (pd_var 2 (pv 2)) (pd_int)) (pd_and (pd_call (hR 20 (by decide)) M.d20.mg M.d20.kp M.d20.b hB (pda_cons (pda_nil) (pd_ix (pd_var 0 (pv 0)) (pd_int)))) (pd_and (pd_call (hR 22 (by decide)) M.d22.mg M.d22.kp M.d22.b hB (pda_cons (pda_nil) (pd_ix (pd_var 0 (pv 0)) (pd_int)))) (pd_one (pd_call (hR 22 (by decide)) M.d22.mg M.d22.kp M.d22.b hB (pda_cons (pda_nil) (pd_ix (pd_var 0 (pv 0)) (pd_int)))))))))) (pds_nil)) (pds_cons (pds_if (pdt_cmp (op_eqD' hB.rg) (pd_var 1 (pv 1)) (pd_str)) (pds_one (pds_ret (pd_and (pd_cmp (op_eqD' hB.rg) (pd_var 2 (pv 2)) (pd_int)) (pd_one (pd_call (hR 18 (by decide)) M.d18.mg M.d18.kp M.d18.b hB (pda_cons (pda_nil) (pd_ix (pd_var 0 (pv 0)) (pd_int)))))))) (pds_nil)) (pds_cons (pds_if ((pdw_or (pdt_cmp (op_notInD hB.rg) (pd_var 1 (pv 1)) (pd_tup (pda_cons (pda_cons (pda_cons (pda_nil) (pd_str)) (pd_str)) (pd_str)))) (pdw_or1 (pdt_cmp (op_neD' hB.rg) (pd_var 2 (pv 2)) (pd_op op_addD (pd_int) (pd_ty call_intD (pda_cons (pda_nil) (pd_cmp (op_eqD' hB.rg) (pd_var 1 (pv 1)) (pd_str))) M.z_int))))).t) (pds_one (pds_ret (pd_bl))) (pds_nil)) (pds_cons (pds_if ((pdw_and (pdt_not (pdt_val (pd_call (hR 18 (by decide)) M.d18.mg M.d18.kp M.d18.b hB (pda_cons (pda_nil) (pd_ix (pd_var 0 (pv 0)) (pd_int)))))) (pdw_and1 (pdt_not (pdt_val (pd_call (hR 19 (by decide)) M.d19.mg M.d19.kp M.d19.b hB (pda_cons (pda_nil) (pd_ix (pd_var 0 (pv 0)) (pd_int)))))))).t) (pds_one (pds_ret (pd_bl))) (pds_nil)) (pds_one (pds_ret (pd_and (pd_or (pd_cmp (op_neD' hB.rg) (pd_var 1 (pv 1)) (pd_str)) (pd_one (pd_call (hR 18 (by decide)) M.d18.mg M.d18.kp M.d18.b hB (pda_cons (pda_nil) (pd_ix (pd_var 0 (pv 0)) (pd_int)))))) (pd_one (pd_call (hR 21 (by decide)) M.d21.mg M.d21.kp M.d21.b hB (pda_cons (pda_nil) (pd_ix (pd_var 0 (pv 0)) (pd_neg (pd_int)))))))))))))))
set_option maxHeartbeats 4000000 in
theorem ok23 (M : Mod K mg fa fd) (hR : ∀ j, j < 26 → FnG P w K mg base k (fa j) (fd j) (psOf j) (spD ⟨K, mg⟩ (psOf j).length (R j))) : FnG P w K mg base (k + 1) (fa 23) (fd 23) (psOf 23) (spD ⟨K, mg⟩ (psOf 23).length (bodyOf 23 R)) :=
  fnD M.d23.F sc23 fun cdv A outer s H E hB hP => pds_cons (pds_set (i := 1) (pd_blt (call_reprD hB.rg) (pda_cons (pda_nil) (pd_var 0 (pv 0))) M.z_repr) hB.nd) (pds_cons (pds_set (i := 2) (pd_blt (call_reprD hB.rg) (pda_cons (pda_nil) (pd_lst (pda_cons (pda_cons (pda_cons (pda_nil) (pd_call (hR 19 (by decide)) M.d19.mg M.d19.kp M.d19.b hB (pda_cons (pda_nil) (pd_var 0 (pv 0))))) (pd_call (hR 18 (by decide)) M.d18.mg M.d18.kp M.d18.b hB (pda_cons (pda_nil) (pd_var 0 (pv 0))))) (pd_call (hR 22 (by decide)) M.d22.mg M.d22.kp M.d22.b hB (pda_cons (pda_nil) (pd_var 0 (pv 0))))))) M.z_repr) hB.nd) (pds_cons (pds_for (vs := [3]) (pdi_rng1 (pd_int) M.z_range) (pdg_name (i := 3) hB.nd) (pds_one (pds_if ((pdw_or (pdt_cmp (op_neD' hB.rg) (pd_blt (call_reprD hB.rg) (pda_cons (pda_nil) (pd_lst (pda_cons (pda_cons (pda_cons (pda_nil) (pd_call (hR 3 (by decide)) M.d3.mg M.d3.kp M.d3.b hB (pda_cons (pda_nil) (pd_var 0 (pv 0))))) (pd_call (hR 1 (by decide)) M.d1.mg M.d1.kp M.d1.b hB (pda_cons (pda_nil) (pd_var 0 (pv 0))))) (pd_call (hR 7 (by decide)) M.d7.mg M.d7.kp M.d7.b hB (pda_cons (pda_nil) (pd_var 0 (pv 0))))))) M.z_repr) (pd_var 2 (pv 2))) (pdw_or1 (pdt_cmp (op_neD' hB.rg) (pd_blt (call_reprD hB.rg) (pda_cons (pda_nil) (pd_var 0 (pv 0))) M.z_repr) (pd_var 1 (pv 1))))).t) (pds_one (pds_ret (pd_bl))) (pds_nil))) hP hB.calm) (pds_one (pds_ret (pd_bl)))))
set_option maxHeartbeats 4000000 in
theorem ok24 (M : Mod K mg fa fd) (hR : ∀ j, j < 26 → FnG P w K mg base k (fa j) (fd j) (psOf j) (spD ⟨K, mg⟩ (psOf j).length (R j))) : FnG P w K mg base (k + 1) (fa 24) (fd 24) (psOf 24) (spD ⟨K, mg⟩ (psOf 24).length (bodyOf 24 R)) :=
  fnD M.d24.F sc24 fun cdv A outer s H E hB hP => pds_cons (pds_par (i := 2) (j := 3) (pd_call (hR 10 (by decide)) M.d10.mg M.d10.kp M.d10.b hB (pda_cons (pda_nil) (pd_var 0 (pv 0)))) (pd_call (hR 11 (by decide)) M.d11.mg M.d11.kp M.d11.b hB (pda_cons (pda_nil) (pd_var 0 (pv 0)))) hB.calm hB.nd) (pds_cons (pds_if ((pdw_or (pdt_cmp op_isNotD (pd_call (hR 1 (by decide)) M.d1.mg M.d1.kp M.d1.b hB (pda_cons (pda_nil) (pd_var 2 (pv 2)))) (pd_bl)) (pdw_or1 (pdt_cmp op_isNotD (pd_call (hR 3 (by decide)) M.d3.mg M.d3.kp M.d3.b hB (pda_cons (pda_nil) (pd_var 3 (pv 3)))) (pd_bl)))).t) (pds_one (pds_ret (pd_bl))) (pds_nil)) (pds_tok (i := 1) (pda_cons (pda_cons (pda_cons (pda_cons (pda_cons (pda_cons (pda_nil) (pd_slice (pd_var 3 (pv 3)) (pdo_none) (pdo_some (pd_neg (pd_int))))) (pd_slice (pd_var 3 (pv 3)) (pdo_some (pd_int)) (pdo_none))) (pd_op op_addD (pd_op op_addD (pd_var 2 (pv 2)) (pd_str)) (pd_var 3 (pv 3)))) (pd_op op_addD (pd_op op_addD (pd_var 3 (pv 3)) (pd_str)) (pd_var 2 (pv 2)))) (pd_op op_addD (pd_var 2 (pv 2)) (pd_var 3 (pv 3)))) (pd_str)) (pdsx_cons (pdsx_set (i := 1) (pdx_catC (pd_var 1 (pv 1)) (pdx_lst (pdax_cons (pdax_cons (pdax_cons (pdax_cons (pdax_cons (pdax_nil) ((pd_op op_addD (pd_op op_addD (pd_var 2 (pv 2)) (pd_str)) (pd_var 2 (pv 2))).x)) ((pd_op op_addD (pd_var 2 (pv 2)) (pd_str)).x)) ((pd_op op_addD (pd_str) (pd_var 2 (pv 2))).x)) ((pd_op op_addD (pd_var 2 (pv 2)) (pd_str)).x)) (pdx_repl (pd_var 3 (pv 3)))))) hB.nd) (pdsx_cons ((pds_expr (pd_mt mt_appendD PySem.F.plainAttrs_list PySem.F.slot_list_append PySem.F.type_list_append (pd_var 1 (pv 1)) (pda_cons (pda_nil) (pd_op op_addD (pd_op op_addD (pd_var 2 (pv 2)) (pd_str)) (pd_var 2 (pv 2)))))).x) (pdsx_cons ((pds_set (i := 1) (pd_op op_addD (pd_var 1 (pv 1)) (pd_lst (pda_cons (pda_cons (pda_cons (pda_cons (pda_nil) (pd_op op_addD (pd_op op_addD (pd_op op_addD (pd_var 2 (pv 2)) (pd_str)) (pd_var 2 (pv 2))) (pd_str))) (pd_op op_addD (pd_str) (pd_var 2 (pv 2)))) (pd_op op_addD (pd_var 3 (pv 3)) (pd_str))) (pd_op op_addD (pd_var 2 (pv 2)) (pd_str))))) hB.nd).x) (pdsx_cons ((pds_set (i := 1) (pd_op op_addD (pd_var 1 (pv 1)) (pd_lst (pda_cons (pda_cons (pda_nil) (pd_op op_addD (pd_op op_addD (pd_op op_addD (pd_op op_addD (pd_var 2 (pv 2)) (pd_str)) (pd_op op_mulD (pd_str) (pd_int))) (pd_str)) (pd_var 2 (pv 2)))) (pd_op op_addD (pd_op op_addD (pd_op op_addD (pd_op op_addD (pd_var 2 (pv 2)) (pd_str)) (pd_op op_mulD (pd_str) (pd_int))) (pd_str)) (pd_var 2 (pv 2)))))) hB.nd).x) (pdsx_cons (pdsx_set (i := 1) (pdx_op op_addD (pd_var 1 (pv 1)) (pdx_lst (pdax_cons (pdax_cons (pdax_cons (pdax_cons (pdax_nil) (pdx_repl (pd_var 3 (pv 3)))) (pdx_repl (pd_var 3 (pv 3)))) ((pd_call (hR 15 (by decide)) M.d15.mg M.d15.kp M.d15.b hB (pda_cons (pda_cons (pda_nil) (pd_var 3 (pv 3))) (pd_var 0 (pv 0)))).x)) ((pd_call (hR 15 (by decide)) M.d15.mg M.d15.kp M.d15.b hB (pda_cons (pda_cons (pda_nil) (pd_var 2 (pv 2))) (pd_var 0 (pv 0)))).x)))) hB.nd) (pdsx_one ((pds_ret (pd_cmp (op_eqD' hB.rg) (pd_lc (own := [("thing", 4)]) (pdi_any (pd_var 1 (pv 1))) (fun _ _ _ _ _ => pdg_name (i := 4) hB.nd) (fun _ _ _ _ _ => pdts_one (pdt_not (pdt_val (pd_call (hR 23 (by decide)) M.d23.mg M.d23.kp M.d23.b (hB.blk _ _ _ _ _ _) (pda_cons (pda_nil) (pd_var 4 (pv 4))))))) (fun _ _ _ _ _ => pd_var 4 (pv 4)) hB.calm hB.nd (blkc_of (N := ["deck", "some", "near", "far", "thing"]) (sc := defScope s24) rfl rfl (by decide +kernel))) (pd_lst (pda_nil)))).x))))))) hB.nd))
set_option maxHeartbeats 4000000 in
theorem ok25 (M : Mod K mg fa fd) (hR : ∀ j, j < 26 → FnG P w K mg base k (fa j) (fd j) (psOf j) (spD ⟨K, mg⟩ (psOf j).length (R j))) : FnG P w K mg base (k + 1) (fa 25) (fd 25) (psOf 25) (spD ⟨K, mg⟩ (psOf 25).length (bodyOf 25 R)) :=
  fnD M.d25.F sc25 fun cdv A outer s H E hB hP => pds_cons (pds_set (i := 1) (pd_call (hR 8 (by decide)) M.d8.mg M.d8.kp M.d8.b hB (pda_cons (pda_nil) (pd_var 0 (pv 0)))) hB.nd) (pds_cons (pds_setLc (i := 2) (own := [("turn", 7)]) (pdi_rng1 (pd_int) M.z_range) (fun _ _ _ _ _ => pdg_name (i := 7) hB.nd) (fun _ _ _ _ _ => pdts_nil) (fun _ _ _ _ _ => pd_call (hR 9 (by decide)) M.d9.mg M.d9.kp M.d9.b (hB.blk _ _ _ _ _ _) (pda_cons (pda_cons (pda_nil) (pd_int)) (pd_var 1 (pv 1)))) hB.calm hB.nd (blkc_of (N := ["script", "deck", "twices", "twice", "things", "last", "good", "turn", "chain", "k", "bent", "thing"]) (sc := defScope s25) rfl rfl (by decide +kernel)) (sw_true rfl rfl rfl (by decide +kernel))) (pds_cons (pds_for (vs := [3]) (pdi_any (pd_var 2 (pv 2))) (pdg_name (i := 3) hB.nd) (pds_cons (pds_set (i := 6) (pd_call (hR 14 (by decide)) M.d14.mg M.d14.kp M.d14.b hB (pda_cons (pda_cons (pda_cons (pda_nil) (pd_lstC (pda_cons (pda_nil) (pd_call (hR 9 (by decide)) M.d9.mg M.d9.kp M.d9.b hB (pda_cons (pda_cons (pda_nil) (pd_int)) (pd_var 1 (pv 1))))))) (pd_ix (pd_lst (pda_cons (pda_cons (pda_cons (pda_nil) (pd_int)) (pd_int)) (pd_int))) (pd_call (hR 9 (by decide)) M.d9.mg M.d9.kp M.d9.b hB (pda_cons (pda_cons (pda_nil) (pd_int)) (pd_var 1 (pv 1)))))) (pd_var 1 (pv 1)))) hB.nd) (pds_cons (pds_if ((pdw_or (pdt_cmp op_isNotD (pd_call (hR 7 (by decide)) M.d7.mg M.d7.kp M.d7.b hB (pda_cons (pda_nil) (pd_var 6 (pv 6)))) (pd_bl)) (pdw_or1 (pdt_not (pdt_val (pd_call (hR 23 (by decide)) M.d23.mg M.d23.kp M.d23.b hB (pda_cons (pda_nil) (pd_var 6 (pv 6)))))))).t) (pds_one (pds_ret (pd_bl))) (pds_nil)) (pds_cons (pds_for (vs := [7]) (pdi_rng1 (pd_int) M.z_range) (pdg_name (i := 7) hB.nd) (pds_cons (pds_set (i := 10) (pd_call (hR 16 (by decide)) M.d16.mg M.d16.kp M.d16.b hB (pda_cons (pda_cons (pda_nil) (pd_var 6 (pv 6))) (pd_var 1 (pv 1)))) hB.nd) (pds_cons (pds_if (pdt_cmp (op_eqD' hB.rg) (pd_var 3 (pv 3)) (pd_int)) (pds_one (pds_set (i := 10) (pd_call (hR 16 (by decide)) M.d16.mg M.d16.kp M.d16.b hB (pda_cons (pda_cons (pda_nil) (pd_var 10 (pv 10))) (pd_var 1 (pv 1)))) hB.nd)) (pds_nil)) (pds_one (pds_if (pdt_not (pdt_val (pd_call (hR 23 (by decide)) M.d23.mg M.d23.kp M.d23.b hB (pda_cons (pda_nil) (pd_var 10 (pv 10)))))) (pds_one (pds_ret (pd_bl))) (pds_nil))))) hP hB.calm) (pds_one (pds_if (pdt_not (pdt_val (pd_call (hR 24 (by decide)) M.d24.mg M.d24.kp M.d24.b hB (pda_cons (pda_nil) (pd_var 1 (pv 1)))))) (pds_one (pds_ret (pd_bl))) (pds_nil)))))) hP hB.calm) (pds_cons (pds_set (i := 4) (pd_lst (pda_cons (pda_cons (pda_cons (pda_cons (pda_cons (pda_cons (pda_cons (pda_cons (pda_cons (pda_cons (pda_cons (pda_cons (pda_cons (pda_nil) (pd_tup (pda_cons (pda_cons (pda_nil) (pd_op op_powD (pd_int) (pd_int))) (pd_str)))) (pd_tup (pda_cons (pda_cons (pda_nil) (pd_int)) (pd_str)))) (pd_tup (pda_cons (pda_cons (pda_nil) (pd_int)) (pd_str)))) (pd_tup (pda_cons (pda_cons (pda_cons (pda_nil) (pd_int)) (pd_int)) (pd_str)))) (pd_tup (pda_cons (pda_nil) (pd_str)))) (pd_dnew)) (pd_lst (pda_nil))) (pd_tup (pda_nil))) (pd_str)) (pd_str)) (pd_int)) (pd_bl)) (pd_non))) hB.nd) (pds_cons (pds_set (i := 4) (pd_op op_addD (pd_var 4 (pv 4)) (pd_lst (pda_cons (pda_cons (pda_cons (pda_cons (pda_cons (pda_nil) (pd_tup (pda_cons (pda_cons (pda_nil) (pd_str)) (pd_str)))) (pd_tup (pda_cons (pda_cons (pda_cons (pda_nil) (pd_lst (pda_nil))) (pd_str)) (pd_str)))) (pd_tup (pda_cons (pda_cons (pda_cons (pda_nil) (pd_tup (pda_nil))) (pd_str)) (pd_str)))) (pd_tup (pda_cons (pda_cons (pda_nil) (pd_bl)) (pd_str)))) (pd_tup (pda_cons (pda_cons (pda_nil) (pd_bl)) (pd_str)))))) hB.nd) (pds_cons (pds_set (i := 4) (pd_catC (pd_var 4 (pv 4)) (pd_lst (pda_cons (pda_cons (pda_nil) (pd_tup (pda_cons (pda_cons (pda_cons (pda_nil) (pd_tup (pda_cons (pda_cons (pda_nil) (pd_int)) (pd_str)))) (pd_tup (pda_cons (pda_cons (pda_nil) (pd_int)) (pd_str)))) (pd_str)))) (pd_tup (pda_cons (pda_cons (pda_cons (pda_cons (pda_nil) (pd_tup (pda_cons (pda_cons (pda_nil) (pd_int)) (pd_str)))) (pd_tup (pda_cons (pda_cons (pda_nil) (pd_int)) (pd_str)))) (pd_str)) (pd_str)))))) hB.nd) (pds_cons (pds_expr (pd_mt mt_appendD PySem.F.plainAttrs_list PySem.F.slot_list_append PySem.F.type_list_append (pd_var 4 (pv 4)) (pda_cons (pda_nil) (pd_tup (pda_cons (pda_cons (pda_cons (pda_cons (pda_nil) (pd_tup (pda_nil))) (pd_str)) (pd_str)) (pd_str)))))) (pds_cons (pds_set (i := 4) (pd_op op_addD (pd_var 4 (pv 4)) (pd_lst (pda_cons (pda_cons (pda_cons (pda_cons (pda_nil) (pd_tup (pda_cons (pda_cons (pda_cons (pda_nil) (pd_tup (pda_cons (pda_cons (pda_nil) (pd_int)) (pd_str)))) (pd_str)) (pd_str)))) (pd_tup (pda_cons (pda_nil) (pd_str)))) (pd_tup (pda_cons (pda_cons (pda_cons (pda_cons (pda_nil) (pd_tup (pda_cons (pda_cons (pda_nil) (pd_int)) (pd_str)))) (pd_tup (pda_nil))) (pd_str)) (pd_str)))) (pd_tup (pda_cons (pda_cons (pda_nil) (pd_str)) (pd_str)))))) hB.nd) (pds_cons (pds_set (i := 4) (pd_op op_addD (pd_var 4 (pv 4)) (pd_lst (pda_cons (pda_cons (pda_cons (pda_nil) (pd_tup (pda_cons (pda_nil) (pd_str)))) (pd_tup (pda_cons (pda_cons (pda_nil) (pd_int)) (pd_str)))) (pd_tup (pda_cons (pda_nil) (pd_tup (pda_cons (pda_cons (pda_nil) (pd_int)) (pd_str)))))))) hB.nd) (pds_cons (pds_for (vs := [5]) (pdi_any (pd_lst (pda_cons (pda_cons (pda_cons (pda_nil) (pd_tup (pda_cons (pda_cons (pda_nil) (pd_bl)) (pd_str)))) (pd_tup (pda_cons (pda_cons (pda_nil) (pd_neg (pd_int))) (pd_str)))) (pd_tup (pda_cons (pda_cons (pda_nil) (pd_int)) (pd_str)))))) (pdg_name (i := 5) hB.nd) (pds_cons (pds_set (i := 8) (pd_var 5 (pv 5)) hB.nd) (pds_cons (pds_for (vs := [9]) (pdi_rng1 (pd_int) M.z_range) (pdg_name (i := 9) hB.nd) (pds_one (pds_set (i := 8) (pd_tup (pda_cons (pda_cons (pda_cons (pda_cons (pda_nil) (pd_var 8 (pv 8))) (pd_tup (pda_cons (pda_cons (pda_nil) (pd_int)) (pd_str)))) (pd_str)) (pd_str))) hB.nd)) hP hB.calm) (pds_one (pds_set (i := 4) (pd_op op_addD (pd_var 4 (pv 4)) (pd_lst (pda_cons (pda_cons (pda_nil) (pd_tup (pda_cons (pda_cons (pda_cons (pda_nil) (pd_op op_addD (pd_op op_mulD (pd_tup (pda_cons (pda_nil) (pd_tup (pda_cons (pda_cons (pda_nil) (pd_int)) (pd_str))))) (pd_int)) (pd_tup (pda_cons (pda_nil) (pd_var 5 (pv 5)))))) (pd_str)) (pd_str)))) (pd_var 8 (pv 8))))) hB.nd)))) hP hB.calm) (pds_one (pds_ret (pd_cmp (op_eqD' hB.rg) (pd_lc (own := [("thing", 11)]) (pdi_any (pd_var 4 (pv 4))) (fun _ _ _ _ _ => pdg_name (i := 11) hB.nd) (fun _ _ _ _ _ => pdts_one (pdt_not (pdt_val (pd_call (hR 23 (by decide)) M.d23.mg M.d23.kp M.d23.b (hB.blk _ _ _ _ _ _) (pda_cons (pda_nil) (pd_var 11 (pv 11))))))) (fun _ _ _ _ _ => pd_var 11 (pv 11)) hB.calm hB.nd (blkc_of (N := ["script", "deck", "twices", "twice", "things", "last", "good", "turn", "chain", "k", "bent", "thing"]) (sc := defScope s25) rfl rfl (by decide +kernel))) (pd_lst (pda_nil))))))))))))))
theorem all_ok (M : Mod K mg fa fd) : ∀ k j, j < 26 → FnG P w K mg base k (fa j) (fd j) (psOf j) (spD ⟨K, mg⟩ (psOf j).length (run k j))
  | 0, _, _ => FnG.zero
  | k + 1, j, h => by
    have hR := all_ok M k
    match j, h with
    | 0, _ => exact ok0 M hR
    | 1, _ => exact ok1 M hR
    | 2, _ => exact ok2 M hR
    | 3, _ => exact ok3 M hR
    | 4, _ => exact ok4 M hR
    | 5, _ => exact ok5 M hR
    | 6, _ => exact ok6 M hR
    | 7, _ => exact ok7 M hR
    | 8, _ => exact ok8 M hR
    | 9, _ => exact ok9 M hR
    | 10, _ => exact ok10 M hR
    | 11, _ => exact ok11 M hR
    | 12, _ => exact ok12 M hR
    | 13, _ => exact ok13 M hR
    | 14, _ => exact ok14 M hR
    | 15, _ => exact ok15 M hR
    | 16, _ => exact ok16 M hR
    | 17, _ => exact ok17 M hR
    | 18, _ => exact ok18 M hR
    | 19, _ => exact ok19 M hR
    | 20, _ => exact ok20 M hR
    | 21, _ => exact ok21 M hR
    | 22, _ => exact ok22 M hR
    | 23, _ => exact ok23 M hR
    | 24, _ => exact ok24 M hR
    | 25, _ => exact ok25 M hR
    | j + 26, h => exact absurd h (by omega)
end
end Lw

namespace Lw
open PySem PySem.Spec L2 Pd
local macro_rules | `(tactic| walk_at "d") => `(tactic| first
  | with_reducible refine sk_seq ?_ | with_reducible refine sk_set ?_ | with_reducible refine sk_ite ?_ | with_reducible refine sk_ret ?_ | with_reducible refine sk_nil ?_ | with_reducible refine sk_expr ?_
  | with_reducible refine sk_par ?_ | with_reducible refine sk_asg ?_ | with_reducible refine sk_setIx ?_ | with_reducible refine sk_star ?_ | with_reducible refine sk_for ?_ | with_reducible refine sk_retN ?_
  | with_reducible refine sk_break ?_ | with_reducible refine sk_cont ?_
  | ((with_reducible refine ok_var (d := ?d) ?h ?_); (case h => exact rfl)) | with_reducible refine ok_c ?_ | with_reducible refine ok_nil ?_ | with_reducible refine ok_cons ?_ | with_reducible refine ok_op ?_
  | with_reducible refine ok_opC ?_ | with_reducible refine ok_un ?_ | with_reducible refine ok_unC ?_ | with_reducible refine ok_not ?_ | with_reducible refine ok_and ?_ | with_reducible refine ok_or ?_
  | with_reducible refine ok_chain ?_ | with_reducible refine ok_ite ?_ | with_reducible refine ok_blt ?_ | with_reducible refine ok_call ?_ | with_reducible refine ok_oNone ?_ | with_reducible refine ok_sl ?_
  | with_reducible refine ok_dnew ?_ | with_reducible refine ok_dnewC ?_ | with_reducible refine ok_B ?_ | with_reducible refine ok_tAnd ?_ | with_reducible refine ok_tOr ?_ | with_reducible refine ok_tNot ?_
  | with_reducible refine ok_tYes ?_ | with_reducible refine ok_iAny ?_ | with_reducible refine ok_lc ?_ | with_reducible refine ok_lcC ?_
  | with_reducible refine blk_bl ?_
  | with_reducible refine Cnd.t ?_ | with_reducible refine Cnd.f ?_ | with_reducible refine Cnd.nt ?_ | with_reducible refine Cnd.nf ?_
  | with_reducible refine lk_add_int ?_ | with_reducible refine lk_sub_int ?_ | with_reducible refine lk_lt_int ?_ | with_reducible refine lk_le_int ?_ | with_reducible refine lk_gt_int ?_ | with_reducible refine lk_ge_int ?_
  | (with_reducible refine ok_tup ?_) | (with_reducible refine ok_lst ?_) | (with_reducible refine ok_lstC ?_)
  | (with_reducible refine ok_mt ?_) | (with_reducible refine ok_repl ?_)
  | (with_reducible refine ok_neg ?_) | (with_reducible refine ok_oSome ?_)
  | (with_reducible refine ok_iRng1 ?_) | (with_reducible refine ok_iRng2 ?_)
  | (with_reducible refine ⟨_, rfl, ?_⟩)
  | (refine ⟨by first | rfl | decide, ?_⟩))
theorem deck_ok {ns : List Int} (hl : ns.length ≤ 63) {k : Nat} {E : ErP} : Ok (run (k + 1) 8 [.scr ns] []) (fun d st => ∃ n m, d = .cell n ∧ Dk st n m 0) E := by
  refine ok_fn (en := [some (.scr ns), none, none]) rfl ?_
  unfold b8
  repeat walk_at "d"
  refine lk_some (a := .lst (iL (ns.take 63))) ?_ ?_
  · show some (D.lst (cutD (iL ns) none (some ((63 : Nat) : Int)))) = _
    rw [cutD_hi]; unfold iL; rw [List.map_take]
  repeat walk_at "d"
  refine glk_some (d := .lst (iL (ns.take 63))) (st := []) rfl ?_
  repeat walk_at "d"
  refine lk_some (a := .lst (iL (ns.take 63).reverse)) ?_ ⟨_, rfl, ?_⟩
  · show some (D.lst (iL (ns.take 63)).reverse) = _
    unfold iL; rw [List.map_reverse]
  repeat walk_at "d"
  refine lk_some (a := iL (ns.take 63)) rfl ?_
  have hl2 : (ns.take 63).length ≤ 63 := by rw [List.length_take]; omega
  refine sum_loop (fun d en st => rfl) (fun i st => ⟨i % 1000033, rfl⟩) hl2 fun ms => ?_
  repeat walk_at "d"
  refine glk_sum ?_
  repeat walk_at "d"
  refine glk_len_lst ?_
  rw [iL_len]
  refine lk_mul_small (by omega) (by omega) (by omega) (by omega) ?_
  repeat walk_at "d"
  refine ⟨le_line (by show 3 ≤ 16777216; decide), 1, 0, rfl, ⟨(ns.take 63).reverse, _, 0, by decide, rfl, rfl, by rw [List.length_reverse]; exact hl2, Int.le_refl _, Int.le_refl _⟩⟩
theorem draw_ok {st : Sto} {n m : Nat} {t w : Int} (h : Dk st n m t) (ht : t ≤ 10 ^ 20) (h0 : 0 < w) (h1 : w ≤ 10 ^ 6) {k : Nat} {E : ErP} :
    Ok (run (k + 1) 9 [.cell n, .int w] st) (fun d st' => ∃ i : Int, d = .int i ∧ 0 ≤ i ∧ i < w ∧ Dk st' n m (t + 1) ∧ Fr n m st st') E := by
  obtain ⟨ns, s, u, hnm, hn, hm, hl, hu, hut⟩ := h
  refine ok_fn (en := [some (.cell n), some (.int w), none, none]) rfl ?_
  unfold b9
  repeat walk_at "d"
  refine lk_some (ix_cell hn (i := 2) rfl) ?_
  repeat walk_at "d"
  refine ⟨n, 2, _, 2, rfl, rfl, hn, rfl, ?_⟩
  have hn1 := get_set (c' := .lst ([.cell m, .int s, .int u].set 2 (.int (u + 1)))) hn
  have hm1 : (st.set n (.lst ([.cell m, .int s, .int u].set 2 (.int (u + 1)))))[m]? = some (.lst (iL ns)) := get_ne hm hnm
  have fr1 : Fr n m st (st.set n (.lst ([.cell m, .int s, .int u].set 2 (.int (u + 1))))) := Fr.set1 _
  generalize st.set n (.lst ([.cell m, .int s, .int u].set 2 (.int (u + 1)))) = st1 at hn1 hm1 fr1
  have hn1 : st1[n]? = some (.lst [.cell m, .int s, .int (u + 1)]) := hn1
  repeat walk_at "d"
  refine lk_some (ix_cell hn1 (i := 1) rfl) ?_
  have hne : neD (.cell m) (.lst []) st1 = some (.bl (!(ns.isEmpty))) := by
    unfold neD
    rw [deref_cell, hm1]
    cases ns <;> rfl
  refine sk_cut (fun en st2 => (∃ c : Int, en = [some (.cell n), some (.int w), some (.int c), none]) ∧ st2[n]? = some (.lst [.cell m, .int s, .int (u + 1)]) ∧ (∃ ms : List Int, ms.length ≤ 63 ∧ st2[m]? = some (.lst (iL ms))) ∧ Fr n m st st2) ?_ ?_
  · repeat walk_at "d"
    refine lk_some (ix_cell hn1 (i := 0) rfl) ?_
    repeat walk_at "d"
    refine lk_some hne ?_
    repeat walk_at "d"
    refine Cnd.of (fun c => ?_) (fun c => ?_)
    · have hns : ns ≠ [] := by intro z; subst z; cases c
      obtain ⟨ms, v, rfl⟩ : ∃ ms v, ns = ms ++ [v] := ⟨ns.dropLast, ns.getLast hns, (List.dropLast_concat_getLast hns).symm⟩
      have eL : iL (ms ++ [v]) = iL ms ++ [.int v] := by unfold iL; rw [List.map_append]; rfl
      repeat walk_at "d"
      refine lk_some (ix_cell hn1 (i := 0) rfl) ?_
      have ty : tyM "list" st1 (.cell m) = true := by
        show (match st1[m]? with | some (.lst _) => decide ("list" = "list") | some (.dct _ _) => decide ("list" = "dict") | _ => false) = true
        rw [hm1]; rfl
      refine ⟨ty, ?_⟩
      repeat walk_at "d"
      rw [eL] at hm1
      refine glk_some (d := .int v) (st := st1.set m (.lst (iL ms))) ?_ ?_
      · show (match st1[m]? with | some (.lst es) => (es[es.length - 1]?).map fun d => (d, st1.set m (.lst es.dropLast)) | _ => none) = _
        rw [hm1]
        simp
      have hn2 : (st1.set m (.lst (iL ms)))[n]? = some (.lst [.cell m, .int s, .int (u + 1)]) := get_ne hn1 (Ne.symm hnm)
      have hm2 : (st1.set m (.lst (iL ms)))[m]? = some (.lst (iL ms)) := get_set hm1
      have fr2 : Fr n m st (st1.set m (.lst (iL ms))) := fr1.trans (Fr.set2 _)
      generalize st1.set m (.lst (iL ms)) = st2 at hn2 hm2 fr2
      have hl2 : ms.length + 1 ≤ 63 := by rw [List.length_append] at hl; exact hl
      repeat walk_at "d"
      refine lk_pow (by decide) ?_
      repeat walk_at "d"
      refine Cnd.of (fun c2 => ?_) (fun c2 => ?_)
      · repeat walk_at "d"
        refine lk_some (ix_cell hn2 (i := 0) rfl) ?_
        have ty : tyM "list" st2 (.cell m) = true := by
          show (match st2[m]? with | some (.lst _) => decide ("list" = "list") | some (.dct _ _) => decide ("list" = "dict") | _ => false) = true
          rw [hm2]; rfl
        refine ⟨ty, ?_⟩
        repeat walk_at "d"
        refine lk_fdiv h0 (Nat.lt_of_lt_of_le (log2_small (by omega) (by omega)) (by decide)) ?_
        repeat walk_at "d"
        refine glk_some (d := .non) (st := st2.set m (.lst (iL ms ++ [.int (v / w)]))) ?_ ?_
        · show (match st2[m]? with | some (.lst es) => if es.length < sizeLine then some (D.non, st2.set m (.lst (es ++ [D.int (v / w)]))) else none | _ => none) = _
          rw [hm2]
          exact if_pos (Nat.lt_of_lt_of_le (by rw [iL_len]; omega) (le_line (n := 64) (by decide)))
        repeat walk_at "d"
        refine lk_mod h0 ?_
        refine ⟨_, rfl, Int.emod_nonneg _ (by omega), Int.emod_lt_of_pos _ h0, ⟨ms ++ [v / w], s, u + 1, hnm, get_ne hn2 (Ne.symm hnm), ?_, ?_, by omega, by omega⟩, fr2.trans (Fr.set2 _)⟩
        · rw [get_set hm2]; unfold iL; rw [List.map_append]; rfl
        · rw [List.length_append]; exact hl2
      · repeat walk_at "d"
        exact ⟨⟨v, rfl⟩, hn2, ⟨ms, by omega, hm2⟩, fr2⟩
    · repeat walk_at "d"
      exact ⟨⟨s, rfl⟩, hn1, ⟨ns, hl, hm1⟩, fr1⟩
  rintro _ st2 ⟨⟨c, rfl⟩, hn2, ⟨ms, hl2, hm2⟩, fr2⟩
  repeat walk_at "d"
  refine lk_mod_gen (by decide) fun r1 _ _ => ?_
  repeat walk_at "d"
  refine lk_some (ix_cell hn2 (i := 2) rfl) ?_
  refine lk_mul_small (by omega) (by omega) (by omega) (by omega) ?_
  repeat walk_at "d"
  refine lk_mul_small (by omega) (by omega) (by omega) (by omega) ?_
  repeat walk_at "d"
  refine lk_mod_gen (by decide) fun r2 _ _ => ?_
  repeat walk_at "d"
  refine lk_mul_small (by omega) (by omega) (by omega) (by omega) ?_
  repeat walk_at "d"
  refine lk_some (ix_cell hn2 (i := 2) rfl) ?_
  refine lk_mul_small (by omega) (by omega) (by omega) (by omega) ?_
  repeat walk_at "d"
  refine lk_mod_gen (by decide) fun r3 _ _ => ?_
  repeat walk_at "d"
  refine lk_mul_small (by omega) (by omega) (by omega) (by omega) ?_
  repeat walk_at "d"
  refine lk_mul_small (by omega) (by omega) (by omega) (by omega) ?_
  repeat walk_at "d"
  refine lk_mod_gen (by decide) fun r4 _ _ => ?_
  repeat walk_at "d"
  refine lk_fdiv (by decide) (by decide) ?_
  repeat walk_at "d"
  refine lk_mod_gen h0 fun r5 _ _ => ?_
  exact ⟨r5, rfl, by assumption, by assumption, ⟨ms, s, u + 1, hnm, hn2, hm2, hl2, by omega, by omega⟩, fr2⟩
end Lw

namespace Lw
open PySem PySem.Spec L2 Pd
abbrev cs (x : Str) : List Nat := x.cps.toList
def lett (c : Nat) : Bool := decide (97 ≤ c) && decide (c ≤ 122)
def fig (c : Nat) : Bool := decide (48 ≤ c) && decide (c ≤ 57)
def isNm (x : Str) : Bool := decide (1 ≤ x.length) && decide (x.length ≤ 8) && (cs x).all lett
def figs (x : Str) : Bool := decide (1 ≤ x.length) && decide (x.length ≤ 40) && (cs x).all fig && decide ((cs x)[0]? ≠ some 48)
def isFarS (x : Str) : Bool := match Txt.split x "." with
  | [a, b, c] => isNm a && isNm c && figs b
  | _ => false
theorem cs_len (x : Str) : (cs x).length = x.length := by simp [cs, Str.length]
theorem cs_app (x y : Str) : cs (x ++ y) = cs x ++ cs y := by show (x.cps ++ y.cps).toList = _; simp [cs]
theorem len_app (x y : Str) : (x ++ y).length = x.length + y.length := by rw [← cs_len, cs_app, List.length_append, cs_len, cs_len]
theorem str_eq {x y : Str} (h : cs x = cs y) : x = y := by
  cases x; cases y
  simp only [cs] at h
  congr 1
  exact Array.toList_inj.mp h
theorem letters_cs : cs (Str.ofString "abcdefghijklmnopqrstuvwxyz") = (List.range 26).map (97 + ·) := by decide +kernel
theorem figures_cs : cs (Str.ofString "0123456789") = (List.range 10).map (48 + ·) := by decide +kernel
theorem in_letters (c : Nat) : (!(Builtin.Str.occurrences (Str.ofString "abcdefghijklmnopqrstuvwxyz") ⟨#[c]⟩ 0 (Str.ofString "abcdefghijklmnopqrstuvwxyz").length 1).isEmpty) = lett c := by
  rw [StrLaws.found_one]
  have e : c ∈ (Str.ofString "abcdefghijklmnopqrstuvwxyz").cps.toList ↔ (97 ≤ c ∧ c ≤ 122) := by
    show c ∈ cs _ ↔ _
    rw [letters_cs, List.mem_map]
    constructor
    · rintro ⟨i, hi, rfl⟩
      have := List.mem_range.mp hi
      omega
    · intro h
      exact ⟨c - 97, List.mem_range.mpr (by omega), by omega⟩
  unfold lett
  rw [← Bool.decide_and]
  exact decide_eq_decide.mpr e
theorem in_figures (c : Nat) : (!(Builtin.Str.occurrences (Str.ofString "0123456789") ⟨#[c]⟩ 0 (Str.ofString "0123456789").length 1).isEmpty) = fig c := by
  rw [StrLaws.found_one]
  have e : c ∈ (Str.ofString "0123456789").cps.toList ↔ (48 ≤ c ∧ c ≤ 57) := by
    show c ∈ cs _ ↔ _
    rw [figures_cs, List.mem_map]
    constructor
    · rintro ⟨i, hi, rfl⟩
      have := List.mem_range.mp hi
      omega
    · intro h
      exact ⟨c - 48, List.mem_range.mpr (by omega), by omega⟩
  unfold fig
  rw [← Bool.decide_and]
  exact decide_eq_decide.mpr e
theorem one_lt (a b : Nat) : decide ([a] < [b]) = decide (a < b) := by
  refine decide_eq_decide.mpr ⟨fun h => ?_, fun h => ?_⟩
  · cases h with
    | rel h => exact h
    | cons h => cases h
  · exact .rel h
theorem az (c : Nat) : ((!decide (([c] : List Nat) < cs (Str.ofString "a"))) && (!decide (cs (Str.ofString "z") < [c]))) = lett c := by
  have e1 : cs (Str.ofString "a") = [97] := by decide +kernel
  have e2 : cs (Str.ofString "z") = [122] := by decide +kernel
  rw [e1, e2, one_lt, one_lt]
  unfold lett
  by_cases h1 : 97 ≤ c <;> by_cases h2 : c ≤ 122 <;> simp [h1, h2] <;> omega
/-! ## a far name that is written so is one -/
theorem cut_one {a b : List Nat} {p q : List Nat} {c : Nat} (h : a ++ c :: p = b ++ c :: q) (ha : c ∉ a) (hb : c ∉ b) : a = b ∧ p = q := by
  induction a generalizing b with
  | nil =>
    cases b with
    | nil => simp at h; exact ⟨rfl, h⟩
    | cons y b =>
      simp at h
      exact absurd (by rw [h.1]; exact .head _) hb
  | cons x a ih =>
    cases b with
    | nil =>
      simp at h
      exact absurd (by rw [h.1]; exact .head _) ha
    | cons y b =>
      simp at h
      obtain ⟨h1, h2⟩ := h
      obtain ⟨h3, h4⟩ := ih h2 (fun z => ha (.tail _ z)) (fun z => hb (.tail _ z))
      exact ⟨by rw [h1, h3], h4⟩
theorem dot_cs : cs (Str.ofString ".") = [46] := by decide +kernel
theorem dot_is : Str.ofString "." = ⟨#[46]⟩ := by decide +kernel
theorem split3 {a b c : Str} (ha : 46 ∉ cs a) (hb : 46 ∉ cs b) (hc : 46 ∉ cs c) : Txt.split (a ++ Str.ofString "." ++ b ++ Str.ofString "." ++ c) (Str.ofString ".") = [a, b, c] := by
  have ej := StrLaws.join_split (a ++ Str.ofString "." ++ b ++ Str.ofString "." ++ c) (Str.ofString ".")
  have ef := StrLaws.split_free (a ++ Str.ofString "." ++ b ++ Str.ofString "." ++ c) 46
  have el := PyProof.Rows.split_len (a ++ Str.ofString "." ++ b ++ Str.ofString "." ++ c) 46
  rw [← dot_is] at ef el
  have ec : PyProof.Rows.cnt 46 (a ++ Str.ofString "." ++ b ++ Str.ofString "." ++ c).cps.toList = 2 := by
    show PyProof.Rows.cnt 46 (cs _) = 2
    rw [cs_app, cs_app, cs_app, cs_app, dot_cs]
    rw [PyProof.Rows.cnt_append, PyProof.Rows.cnt_append, PyProof.Rows.cnt_append, PyProof.Rows.cnt_append]
    rw [PyProof.Rows.cnt_none 46 _ ha, PyProof.Rows.cnt_none 46 _ hb, PyProof.Rows.cnt_none 46 _ hc, PyProof.Rows.cnt_cons, PyProof.Rows.cnt_nil]
    rfl
  rw [ec] at el
  have el : (Txt.split (a ++ Str.ofString "." ++ b ++ Str.ofString "." ++ c) (Str.ofString ".")).length = 3 := by omega
  generalize Txt.split (a ++ Str.ofString "." ++ b ++ Str.ofString "." ++ c) (Str.ofString ".") = l at ej ef el
  match l, el with
  | [p, q, r], _ =>
    have hp : 46 ∉ cs p := ef p (by simp)
    have hq : 46 ∉ cs q := ef q (by simp)
    have e : cs p ++ 46 :: (cs q ++ 46 :: cs r) = cs a ++ 46 :: (cs b ++ 46 :: cs c) := by
      have := congrArg cs ej
      have e1 : Str.join (Str.ofString ".") [p, q, r] = p ++ Str.ofString "." ++ (q ++ Str.ofString "." ++ r) := rfl
      rw [e1] at this
      rw [cs_app, cs_app, cs_app, cs_app, cs_app, cs_app, cs_app, cs_app, dot_cs] at this
      simpa using this
    obtain ⟨e1, e2⟩ := cut_one e hp ha
    obtain ⟨e3, e4⟩ := cut_one e2 hq hb
    rw [str_eq e1, str_eq e3, str_eq e4]
theorem nm_dotless {x : Str} (h : isNm x = true) : 46 ∉ cs x := fun z => by
  unfold isNm at h
  rw [Bool.and_eq_true] at h
  have := List.all_eq_true.mp h.2 46 z
  exact absurd this (by decide)
theorem head_digit : ∀ n : Nat, 1 ≤ n → (Nat.toDigits 10 n)[0]? ≠ some '0' ∧ Nat.toDigits 10 n ≠ []
  | n, h => by
    by_cases hn : n < 10
    · rw [Nat.toDigits_of_lt_base hn]
      refine ⟨?_, by simp⟩
      have : n = 1 ∨ n = 2 ∨ n = 3 ∨ n = 4 ∨ n = 5 ∨ n = 6 ∨ n = 7 ∨ n = 8 ∨ n = 9 := by omega
      rcases this with rfl | rfl | rfl | rfl | rfl | rfl | rfl | rfl | rfl <;> decide
    · rw [Nat.toDigits_of_base_le (by decide) (by omega)]
      have ih := head_digit (n / 10) (by omega)
      refine ⟨?_, by simp⟩
      cases e : Nat.toDigits 10 (n / 10) with
      | nil => exact absurd e ih.2
      | cons c r =>
        rw [e] at ih
        exact ih.1
theorem text_cs {i : Int} (h0 : 0 ≤ i) : cs (Str.ofString (toString i)) = (Nat.toDigits 10 i.toNat).map Char.toNat := by
  show (Str.ofString (toString i)).cps.toList = _
  rw [PyProof.Rows.signs_ofString, Int.toString_eq_repr, Int.repr_eq_if, if_pos h0, Nat.toList_repr]
theorem figs_text {i : Int} (h0 : 1 ≤ i) (h1 : i ≤ 10 ^ 39) : figs (Str.ofString (toString i)) = true := by
  have e := text_cs (i := i) (by omega)
  have hd := head_digit i.toNat (by omega)
  have hl : (Nat.toDigits 10 i.toNat).length ≤ 40 := PyProof.Rows.digits10_le (by decide) (by
    have : (10 : Int) ^ 39 < 10 ^ 40 := by decide
    omega)
  have hlen : (Str.ofString (toString i)).length = (Nat.toDigits 10 i.toNat).length := by rw [← cs_len, e, List.length_map]
  have hne : 1 ≤ (Nat.toDigits 10 i.toNat).length := List.length_pos_iff.mpr hd.2
  unfold figs
  rw [e, hlen]
  simp only [Bool.and_eq_true, decide_eq_true_eq, List.all_eq_true]
  refine ⟨⟨⟨hne, hl⟩, fun c hc => ?_⟩, fun z => ?_⟩
  · obtain ⟨ch, hm, rfl⟩ := List.mem_map.mp hc
    have := PyProof.Rows.digit_range (Nat.isDigit_of_mem_toDigits (by decide) (by decide) hm)
    unfold fig
    simp only [Bool.and_eq_true, decide_eq_true_eq]
    exact this
  · rw [List.getElem?_map] at z
    obtain ⟨ch, h2, h3⟩ := Option.map_eq_some_iff.mp z
    have : ch = '0' := by
      apply Char.ext
      apply UInt32.toNat_inj.mp
      exact h3
    rw [this] at h2
    exact hd.1 h2
theorem far_good {a b : Str} {i : Int} (ha : isNm a = true) (hb : isNm b = true) (h0 : 1 ≤ i) (h1 : i ≤ 10 ^ 39) : isFarS (a ++ Str.ofString "." ++ Str.ofString (toString i) ++ Str.ofString "." ++ b) = true := by
  have hd : figs (Str.ofString (toString i)) = true := figs_text h0 h1
  have hn : 46 ∉ cs (Str.ofString (toString i)) := PyProof.Rows.int_text_free' 46 (by decide) i
  unfold isFarS
  show (match Txt.split _ (Str.ofString ".") with | [a, b, c] => isNm a && isNm c && figs b | _ => false) = true
  rw [split3 (nm_dotless ha) hn (nm_dotless hb)]
  show (isNm a && isNm b && figs (Str.ofString (toString i))) = true
  rw [ha, hb, hd]; rfl
end Lw

namespace Lw
open PySem PySem.Spec L2 Pd
mutual
/-- data that the law makes: small, of ascii -/
def gd : D → Bool
  | .non | .bl _ => true
  | .int i => decide (i.natAbs.log2 < 1900)
  | .str x => decide (x.length ≤ 1000000) && (cs x).all fun c => decide (c < 128)
  | .tup ds | .lst ds => decide (ds.length ≤ 100000) && gdL ds
  | .dct ks ds => decide (ks.length = ds.length) && decide (ks = [.inl 0] ∨ ks = []) && gdL ds
  | .cell _ | .glob _ | .scr _ => false
def gdL : List D → Bool
  | [] => true
  | d :: ds => gd d && gdL ds
end
theorem gdL_mem : ∀ {ds : List D}, gdL ds = true → ∀ d ∈ ds, gd d = true
  | d :: ds, h, e, he => by
    unfold gdL at h
    rw [Bool.and_eq_true] at h
    cases he with
    | head => exact h.1
    | tail _ he => exact gdL_mem h.2 e he
theorem gdL_of : ∀ {ds : List D}, (∀ d ∈ ds, gd d = true) → gdL ds = true
  | [], _ => rfl
  | d :: ds, h => by
    unfold gdL
    rw [Bool.and_eq_true]
    exact ⟨h d (.head _), gdL_of fun e he => h e (.tail _ he)⟩
def isS : D → Bool | .str _ => true | _ => false
def isI : D → Bool | .int _ => true | .bl _ => true | _ => false
def isB : D → Bool | .bl _ => true | _ => false
def isTu : D → Bool | .tup _ => true | _ => false
section
variable {st : Sto} {Q : D → Prop}
theorem lk_isi {T : String} {d : D} {t : String} {b : Bool} (e : tyN st d = some t) (k : kitB t T = some b) (h : Q (.bl b)) : Lk (isiB T d st) Q := by
  unfold isiB
  rw [e]
  show Lk ((kitB t T).map .bl) Q
  rw [k]; exact h
theorem lk_isi_str {d : D} (g : gd d = true) (h : Q (.bl (isS d))) : Lk (isiB "str" d st) Q := by
  cases d with
  | non => exact lk_isi rfl (show kitB "NoneType" "str" = some false by decide +kernel) h
  | bl b => exact lk_isi rfl (show kitB "bool" "str" = some false by decide +kernel) h
  | int b => exact lk_isi rfl (show kitB "int" "str" = some false by decide +kernel) h
  | str b => exact lk_isi rfl (show kitB "str" "str" = some true by decide +kernel) h
  | tup b => exact lk_isi rfl (show kitB "tuple" "str" = some false by decide +kernel) h
  | lst b => exact lk_isi rfl (show kitB "list" "str" = some false by decide +kernel) h
  | dct b c => exact lk_isi rfl (show kitB "dict" "str" = some false by decide +kernel) h
  | _ => unfold gd at g; cases g
theorem lk_isi_int {d : D} (g : gd d = true) (h : Q (.bl (isI d))) : Lk (isiB "int" d st) Q := by
  cases d with
  | non => exact lk_isi rfl (show kitB "NoneType" "int" = some false by decide +kernel) h
  | bl b => exact lk_isi rfl (show kitB "bool" "int" = some true by decide +kernel) h
  | int b => exact lk_isi rfl (show kitB "int" "int" = some true by decide +kernel) h
  | str b => exact lk_isi rfl (show kitB "str" "int" = some false by decide +kernel) h
  | tup b => exact lk_isi rfl (show kitB "tuple" "int" = some false by decide +kernel) h
  | lst b => exact lk_isi rfl (show kitB "list" "int" = some false by decide +kernel) h
  | dct b c => exact lk_isi rfl (show kitB "dict" "int" = some false by decide +kernel) h
  | _ => unfold gd at g; cases g
theorem lk_isi_bool {d : D} (g : gd d = true) (h : Q (.bl (isB d))) : Lk (isiB "bool" d st) Q := by
  cases d with
  | non => exact lk_isi rfl (show kitB "NoneType" "bool" = some false by decide +kernel) h
  | bl b => exact lk_isi rfl (show kitB "bool" "bool" = some true by decide +kernel) h
  | int b => exact lk_isi rfl (show kitB "int" "bool" = some false by decide +kernel) h
  | str b => exact lk_isi rfl (show kitB "str" "bool" = some false by decide +kernel) h
  | tup b => exact lk_isi rfl (show kitB "tuple" "bool" = some false by decide +kernel) h
  | lst b => exact lk_isi rfl (show kitB "list" "bool" = some false by decide +kernel) h
  | dct b c => exact lk_isi rfl (show kitB "dict" "bool" = some false by decide +kernel) h
  | _ => unfold gd at g; cases g
theorem lk_isi_tuple {d : D} (g : gd d = true) (h : Q (.bl (isTu d))) : Lk (isiB "tuple" d st) Q := by
  cases d with
  | non => exact lk_isi rfl (show kitB "NoneType" "tuple" = some false by decide +kernel) h
  | bl b => exact lk_isi rfl (show kitB "bool" "tuple" = some false by decide +kernel) h
  | int b => exact lk_isi rfl (show kitB "int" "tuple" = some false by decide +kernel) h
  | str b => exact lk_isi rfl (show kitB "str" "tuple" = some false by decide +kernel) h
  | tup b => exact lk_isi rfl (show kitB "tuple" "tuple" = some true by decide +kernel) h
  | lst b => exact lk_isi rfl (show kitB "list" "tuple" = some false by decide +kernel) h
  | dct b c => exact lk_isi rfl (show kitB "dict" "tuple" = some false by decide +kernel) h
  | _ => unfold gd at g; cases g
theorem lk_eq_str {a b : Str} (h : Q (.bl (a == b))) : Lk (eqD (.str a) (.str b) st) Q := lk_some (a := .bl (a == b)) rfl h
theorem lk_ne_str {a b : Str} (h : Q (.bl (!(a == b)))) : Lk (neD (.str a) (.str b) st) Q := lk_some (a := .bl (!(a == b))) rfl h
theorem lk_eq_int {a b : Int} (h : Q (.bl (a == b))) : Lk (eqD (.int a) (.int b) st) Q := lk_some (a := .bl (a == b)) rfl h
theorem lk_ne_int {a b : Int} (h : Q (.bl (!(a == b)))) : Lk (neD (.int a) (.int b) st) Q := lk_some (a := .bl (!(a == b))) rfl h
theorem lk_eq_nil {ds : List D} (h : Q (.bl ds.isEmpty)) : Lk (eqD (.lst ds) (.lst []) st) Q := by
  refine lk_some (a := .bl ds.isEmpty) ?_ h
  cases ds <;> rfl
theorem lk_ne_nil {ds : List D} (h : Q (.bl (!ds.isEmpty))) : Lk (neD (.lst ds) (.lst []) st) Q := by
  refine lk_some (a := .bl (!ds.isEmpty)) ?_ h
  cases ds <;> rfl
theorem lk_eq_tnil {ds : List D} (h : Q (.bl ds.isEmpty)) : Lk (eqD (.tup ds) (.tup []) st) Q := by
  refine lk_some (a := .bl ds.isEmpty) ?_ h
  cases ds <;> rfl
theorem lk_ne_tnil {ds : List D} (h : Q (.bl (!ds.isEmpty))) : Lk (neD (.tup ds) (.tup []) st) Q := by
  refine lk_some (a := .bl (!ds.isEmpty)) ?_ h
  cases ds <;> rfl
theorem lk_in_strs {w : Str} {ds : List D} (p : plnL ds = true) (h : Q (.bl (ds.any fun y => PyData.eqv (py y) (.str w)))) : Lk (inD (.str w) (.tup ds) st) Q := by
  refine lk_some (a := .bl (ds.any fun y => PyData.eqv (py y) (.str w))) ?_ h
  show (if (pln (.str w) && plnL ds && decide ((py (.str w)).depth ≤ 150)) = true then some (ds.any fun y => PyData.eqv (py y) (py (.str w))) else none).map D.bl = _
  rw [p]; rfl
theorem lk_nin_strs {w : Str} {ds : List D} (p : plnL ds = true) (h : Q (.bl (!(ds.any fun y => PyData.eqv (py y) (.str w))))) : Lk (notInD (.str w) (.tup ds) st) Q := by
  refine lk_some (a := .bl (!(ds.any fun y => PyData.eqv (py y) (.str w)))) ?_ h
  show (if (pln (.str w) && plnL ds && decide ((py (.str w)).depth ≤ 150)) = true then some (ds.any fun y => PyData.eqv (py y) (py (.str w))) else none).map (fun k => D.bl (!k)) = _
  rw [p]; rfl
theorem lk_in_letters {c : Nat} (h : Q (.bl (lett c))) : Lk (inD (.str ⟨#[c]⟩) (.str "abcdefghijklmnopqrstuvwxyz") st) Q := by
  refine lk_some (a := .bl (lett c)) ?_ h
  show some (D.bl (!(Builtin.Str.occurrences (Str.ofString "abcdefghijklmnopqrstuvwxyz") ⟨#[c]⟩ 0 (Str.ofString "abcdefghijklmnopqrstuvwxyz").length 1).isEmpty)) = _
  rw [in_letters]
theorem lk_in_figs {c : Nat} (h : Q (.bl (fig c))) : Lk (inD (.str ⟨#[c]⟩) (.str "0123456789") st) Q := by
  refine lk_some (a := .bl (fig c)) ?_ h
  show some (D.bl (!(Builtin.Str.occurrences (Str.ofString "0123456789") ⟨#[c]⟩ 0 (Str.ofString "0123456789").length 1).isEmpty)) = _
  rw [in_figures]
theorem lk_nin_figs {c : Nat} (h : Q (.bl (!(fig c)))) : Lk (notInD (.str ⟨#[c]⟩) (.str "0123456789") st) Q := by
  refine lk_some (a := .bl (!(fig c))) ?_ h
  show some (D.bl (!(!(Builtin.Str.occurrences (Str.ofString "0123456789") ⟨#[c]⟩ 0 (Str.ofString "0123456789").length 1).isEmpty))) = _
  rw [in_figures]
/-- a comprehension that changes nothing -/
theorem lc_pure {gm : GM} {tm : TM} {em : EM} {en : En} (p : D → Bool) (f : D → D) : ∀ (ds acc : List D), (∀ d ∈ ds, ∃ en', gm d en st = some en' ∧ tm en' st = .ok (p d) st ∧ (p d = true → em en' st = .ok (f d) st)) → acc.length + ds.length ≤ sizeLine →
    lcLoop gm tm em en ds acc st = .ok (acc ++ (ds.filter p).map f) st
  | [], acc, _, _ => by show Out.ok acc st = _; simp
  | d :: ds, acc, h, hl => by
    obtain ⟨en', h1, h2, h3⟩ := h d (.head _)
    rw [List.length_cons] at hl
    rw [lcLoop_cons]
    simp only [h1, h2]
    cases e : p d with
    | false =>
      simp only
      rw [lc_pure p f ds acc (fun d hd => h d (.tail _ hd)) (by omega), List.filter_cons, e]; rfl
    | true =>
      simp only [h3 e]
      rw [if_pos (by omega), lc_pure p f ds (acc ++ [f d]) (fun d hd => h d (.tail _ hd)) (by rw [List.length_append, List.length_singleton]; omega), List.filter_cons, e]
      simp
theorem ok_lc_pure {gm : GM} {tm : TM} {em : EM} {en : En} {E : ErP} {PL : List D → Sto → Prop} (p : D → Bool) (f : D → D) {ds : List D} (hl : ds.length ≤ sizeLine) (h : ∀ d ∈ ds, ∃ en', gm d en st = some en' ∧ tm en' st = .ok (p d) st ∧ (p d = true → em en' st = .ok (f d) st))
    (q : PL ((ds.filter p).map f) st) : Ok (lcLoop gm tm em en ds [] st) PL E := by
  refine ok_of (lc_pure p f ds [] h (by simpa using hl)) ?_
  simpa using q
theorem is_of {α : Type} {o : Out α} {a : α} (h : Ok o (fun r st' => r = a ∧ st' = st) NoE) : o = .ok a st := by
  obtain ⟨r, st', e, rfl, rfl⟩ := h.eq
  exact e
theorem glk_all {bs : List Bool} {Q : D → Sto → Prop} (h : Q (.bl (bs.all id)) st) : GLk (allG [.lst (bs.map .bl)] st) Q := by
  refine glk_some (d := .bl (bs.all id)) (st := st) ?_ h
  have e : blsD (bs.map D.bl) = some bs := by
    clear h
    induction bs with
    | nil => rfl
    | cons b bs ih => show (blsD (bs.map D.bl)).map (b :: ·) = _; rw [ih]; rfl
  show ((some (bs.map D.bl)).bind blsD).map _ = _
  show (blsD (bs.map D.bl)).map _ = _
  rw [e]; rfl
end
theorem gd_str {x : Str} (h : gd (.str x) = true) : x.length ≤ 1000000 ∧ ∀ c ∈ cs x, c < 128 := by
  unfold gd at h
  rw [Bool.and_eq_true, decide_eq_true_eq, List.all_eq_true] at h
  exact ⟨h.1, fun c hc => of_decide_eq_true (h.2 c hc)⟩
theorem gd_tup {ds : List D} (h : gd (.tup ds) = true) : ds.length ≤ 100000 ∧ gdL ds = true := by
  unfold gd at h
  rw [Bool.and_eq_true, decide_eq_true_eq] at h
  exact h
theorem signs_map (x : Str) : signs x = (cs x).map fun c => D.str ⟨#[c]⟩ := rfl
def nmD : D → Bool | .str x => isNm x | _ => false
def farD : D → Bool | .str x => isFarS x | _ => false
end Lw

namespace Lw
open PySem PySem.Spec L2 Pd
local macro_rules | `(tactic| walk_at "d") => `(tactic| first
  | with_reducible refine sk_seq ?_ | with_reducible refine sk_set ?_ | with_reducible refine sk_ite ?_ | with_reducible refine sk_ret ?_ | with_reducible refine sk_nil ?_ | with_reducible refine sk_expr ?_
  | with_reducible refine sk_par ?_ | with_reducible refine sk_asg ?_ | with_reducible refine sk_setIx ?_ | with_reducible refine sk_star ?_ | with_reducible refine sk_for ?_ | with_reducible refine sk_retN ?_
  | with_reducible refine sk_break ?_ | with_reducible refine sk_cont ?_
  | ((with_reducible refine ok_var (d := ?d) ?h ?_); (case h => exact rfl)) | with_reducible refine ok_c ?_ | with_reducible refine ok_nil ?_ | with_reducible refine ok_cons ?_ | with_reducible refine ok_op ?_
  | with_reducible refine ok_opC ?_ | with_reducible refine ok_un ?_ | with_reducible refine ok_unC ?_ | with_reducible refine ok_not ?_ | with_reducible refine ok_and ?_ | with_reducible refine ok_or ?_
  | with_reducible refine ok_chain ?_ | with_reducible refine ok_ite ?_ | with_reducible refine ok_blt ?_ | with_reducible refine ok_call ?_ | with_reducible refine ok_oNone ?_ | with_reducible refine ok_sl ?_
  | with_reducible refine ok_dnew ?_ | with_reducible refine ok_dnewC ?_ | with_reducible refine ok_B ?_ | with_reducible refine ok_tAnd ?_ | with_reducible refine ok_tOr ?_ | with_reducible refine ok_tNot ?_
  | with_reducible refine ok_tYes ?_ | with_reducible refine ok_iAny ?_ | with_reducible refine ok_lc ?_ | with_reducible refine ok_lcC ?_
  | with_reducible refine blk_bl ?_
  | with_reducible refine Cnd.t ?_ | with_reducible refine Cnd.f ?_ | with_reducible refine Cnd.nt ?_ | with_reducible refine Cnd.nf ?_
  | with_reducible refine lk_add_int ?_ | with_reducible refine lk_sub_int ?_ | with_reducible refine lk_lt_int ?_ | with_reducible refine lk_le_int ?_ | with_reducible refine lk_gt_int ?_ | with_reducible refine lk_ge_int ?_
  | (with_reducible refine ok_tup ?_) | (with_reducible refine ok_lst ?_) | (with_reducible refine ok_lstC ?_)
  | (with_reducible refine ok_mt ?_) | (with_reducible refine ok_repl ?_)
  | (with_reducible refine ok_neg ?_) | (with_reducible refine ok_oSome ?_)
  | (with_reducible refine ok_iRng1 ?_) | (with_reducible refine ok_iRng2 ?_)
  | (with_reducible refine ⟨_, rfl, ?_⟩)
  | (refine ⟨by first | rfl | decide, ?_⟩))
local macro_rules | `(tactic| walk_at "e") => `(tactic| first
  | walk_at "d"
  | with_reducible refine lk_isi_str (by assumption) ?_ | with_reducible refine lk_isi_int (by assumption) ?_ | with_reducible refine lk_isi_bool (by assumption) ?_ | with_reducible refine lk_isi_tuple (by assumption) ?_
  | with_reducible refine lk_eq_str ?_ | with_reducible refine lk_ne_str ?_ | with_reducible refine lk_eq_int ?_ | with_reducible refine lk_ne_int ?_ | with_reducible refine lk_eq_nil ?_ | with_reducible refine lk_ne_nil ?_
  | with_reducible refine lk_eq_tnil ?_ | with_reducible refine lk_ne_tnil ?_ | with_reducible refine lk_in_strs rfl ?_ | with_reducible refine lk_nin_strs rfl ?_
  | with_reducible refine glk_len_tup ?_ | with_reducible refine glk_len_lst ?_ | with_reducible refine glk_len_str (le_line (by omega)) ?_)
def wholeD (d : D) : Bool := isI d && !isB d
theorem whole_ok {d : D} (g : gd d = true) {k : Nat} {st : Sto} : run (k + 1) 0 [d] st = .ok (.bl (wholeD d)) st := by
  refine is_of (ok_fn (en := [some d]) rfl ?_)
  unfold b0
  repeat walk_at "e"
  refine Cnd.of (fun c => ?_) (fun c => ?_)
  · repeat walk_at "e"
    exact ⟨by unfold wholeD; rw [c]; rfl, rfl⟩
  · exact ⟨by unfold wholeD; rw [c]; rfl, rfl⟩
theorem whole_ok2 {d : D} (g : gd d = true) {k : Nat} {st : Sto} : run (k + 1) 17 [d] st = .ok (.bl (wholeD d)) st := by
  refine is_of (ok_fn (en := [some d]) rfl ?_)
  unfold b17
  repeat walk_at "e"
  refine Cnd.of (fun c => ?_) (fun c => ?_)
  · repeat walk_at "e"
    exact ⟨by unfold wholeD; rw [c]; rfl, rfl⟩
  · exact ⟨by unfold wholeD; rw [c]; rfl, rfl⟩
theorem all_map (l : List Nat) (p : Nat → Bool) : (l.map p).all id = l.all p := by
  induction l with
  | nil => rfl
  | cons a l ih => simp [ih]
theorem filter_empty {l : List Nat} {p : Nat → Bool} : (l.filter fun c => !p c).isEmpty = l.all p := by
  induction l with
  | nil => rfl
  | cons a l ih =>
    rw [List.filter_cons, List.all_cons]
    cases p a <;> simp [ih]
theorem name_ok {d : D} (g : gd d = true) {k : Nat} {st : Sto} : run (k + 1) 1 [d] st = .ok (.bl (nmD d)) st := by
  refine is_of (ok_fn (en := [some d, none]) rfl ?_)
  unfold b1
  repeat walk_at "e"
  by_cases hs : isS d = true
  · cases d with
    | str x =>
      have hx := gd_str g
      repeat walk_at "e"
      refine Cnd.no rfl ?_
      repeat walk_at "e"
      have fin : isNm x = (decide ((1 : Int) ≤ (x.length : Int)) && (decide ((x.length : Int) ≤ 8) && (cs x).all lett)) := by
        unfold isNm
        have e1 : decide ((1 : Int) ≤ (x.length : Int)) = decide (1 ≤ x.length) := decide_eq_decide.mpr (by omega)
        have e2 : decide ((x.length : Int) ≤ 8) = decide (x.length ≤ 8) := decide_eq_decide.mpr (by omega)
        rw [e1, e2, Bool.and_assoc]
      refine Cnd.of (fun c1 => ?_) (fun c1 => ?_)
      · repeat walk_at "e"
        refine Cnd.of (fun c2 => ?_) (fun c2 => ?_)
        · repeat walk_at "e"
          rw [Bool.not_eq_true'] at c2
          exact ⟨by show D.bl false = .bl (isNm x); rw [fin, c1, c2]; rfl, rfl⟩
        · rw [Bool.not_eq_false'] at c2
          repeat walk_at "e"
          refine lk_some (a := signs x) rfl ?_
          rw [signs_map]
          have hlen : ((cs x).map fun c => D.str ⟨#[c]⟩).length ≤ sizeLine := by rw [List.length_map, cs_len]; exact le_line (by omega)
          refine ok_lc_pure (fun _ => true) (fun d => .bl (match d with | .str z => (cs z).all lett | _ => false)) hlen (fun d hd => ?_) ?_
          · obtain ⟨c, hc, rfl⟩ := List.mem_map.mp hd
            refine ⟨_, rfl, rfl, fun _ => is_of ?_⟩
            repeat walk_at "e"
            refine lk_in_letters ?_
            exact ⟨by show D.bl (lett c) = .bl ((cs ⟨#[c]⟩).all lett); simp [cs], rfl⟩
          · repeat walk_at "e"
            have e3 : ((List.filter (fun _ => true) ((cs x).map fun c => D.str ⟨#[c]⟩)).map fun d => D.bl (match d with | .str z => (cs z).all lett | _ => false)) = ((cs x).map lett).map D.bl := by
              rw [List.filter_eq_self.mpr (fun _ _ => rfl), List.map_map, List.map_map]
              refine List.map_congr_left fun c _ => ?_
              show D.bl ((cs ⟨#[c]⟩).all lett) = .bl (lett c)
              simp [cs]
            rw [e3]
            refine glk_all ?_
            exact ⟨by show D.bl _ = .bl (isNm x); rw [fin, c1, c2, all_map]; rfl, rfl⟩
      · repeat walk_at "e"
        exact ⟨by show D.bl false = .bl (isNm x); rw [fin, c1]; rfl, rfl⟩
    | _ => cases hs
  · rw [Bool.not_eq_true] at hs
    refine Cnd.yes (by rw [hs]; rfl) ?_
    repeat walk_at "e"
    exact ⟨(by cases d <;> first | rfl | cases hs), rfl⟩
end Lw

namespace Lw
open PySem PySem.Spec L2 Pd
local macro_rules | `(tactic| walk_at "d") => `(tactic| first
  | with_reducible refine sk_seq ?_ | with_reducible refine sk_set ?_ | with_reducible refine sk_ite ?_ | with_reducible refine sk_ret ?_ | with_reducible refine sk_nil ?_ | with_reducible refine sk_expr ?_
  | with_reducible refine sk_par ?_ | with_reducible refine sk_asg ?_ | with_reducible refine sk_setIx ?_ | with_reducible refine sk_star ?_ | with_reducible refine sk_for ?_ | with_reducible refine sk_retN ?_
  | with_reducible refine sk_break ?_ | with_reducible refine sk_cont ?_
  | ((with_reducible refine ok_var (d := ?d) ?h ?_); (case h => exact rfl)) | with_reducible refine ok_c ?_ | with_reducible refine ok_nil ?_ | with_reducible refine ok_cons ?_ | with_reducible refine ok_op ?_
  | with_reducible refine ok_opC ?_ | with_reducible refine ok_un ?_ | with_reducible refine ok_unC ?_ | with_reducible refine ok_not ?_ | with_reducible refine ok_and ?_ | with_reducible refine ok_or ?_
  | with_reducible refine ok_chain ?_ | with_reducible refine ok_ite ?_ | with_reducible refine ok_blt ?_ | with_reducible refine ok_call ?_ | with_reducible refine ok_oNone ?_ | with_reducible refine ok_sl ?_
  | with_reducible refine ok_dnew ?_ | with_reducible refine ok_dnewC ?_ | with_reducible refine ok_B ?_ | with_reducible refine ok_tAnd ?_ | with_reducible refine ok_tOr ?_ | with_reducible refine ok_tNot ?_
  | with_reducible refine ok_tYes ?_ | with_reducible refine ok_iAny ?_ | with_reducible refine ok_lc ?_ | with_reducible refine ok_lcC ?_
  | with_reducible refine blk_bl ?_
  | with_reducible refine Cnd.t ?_ | with_reducible refine Cnd.f ?_ | with_reducible refine Cnd.nt ?_ | with_reducible refine Cnd.nf ?_
  | with_reducible refine lk_add_int ?_ | with_reducible refine lk_sub_int ?_ | with_reducible refine lk_lt_int ?_ | with_reducible refine lk_le_int ?_ | with_reducible refine lk_gt_int ?_ | with_reducible refine lk_ge_int ?_
  | (with_reducible refine ok_tup ?_) | (with_reducible refine ok_lst ?_) | (with_reducible refine ok_lstC ?_)
  | (with_reducible refine ok_mt ?_) | (with_reducible refine ok_repl ?_)
  | (with_reducible refine ok_neg ?_) | (with_reducible refine ok_oSome ?_)
  | (with_reducible refine ok_iRng1 ?_) | (with_reducible refine ok_iRng2 ?_)
  | (with_reducible refine ⟨_, rfl, ?_⟩)
  | (refine ⟨by first | rfl | decide, ?_⟩))
local macro_rules | `(tactic| walk_at "e") => `(tactic| first
  | walk_at "d"
  | with_reducible refine lk_isi_str (by assumption) ?_ | with_reducible refine lk_isi_int (by assumption) ?_ | with_reducible refine lk_isi_bool (by assumption) ?_ | with_reducible refine lk_isi_tuple (by assumption) ?_
  | with_reducible refine lk_eq_str ?_ | with_reducible refine lk_ne_str ?_ | with_reducible refine lk_eq_int ?_ | with_reducible refine lk_ne_int ?_ | with_reducible refine lk_eq_nil ?_ | with_reducible refine lk_ne_nil ?_
  | with_reducible refine lk_eq_tnil ?_ | with_reducible refine lk_ne_tnil ?_ | with_reducible refine lk_in_strs rfl ?_ | with_reducible refine lk_nin_strs rfl ?_
  | with_reducible refine glk_len_tup ?_ | with_reducible refine glk_len_lst ?_ | with_reducible refine glk_len_str (le_line (by omega)) ?_)
theorem name_ok2 {d : D} (g : gd d = true) {k : Nat} {st : Sto} : run (k + 1) 18 [d] st = .ok (.bl (nmD d)) st := by
  refine is_of (ok_fn (en := [some d, none]) rfl ?_)
  unfold b18
  repeat walk_at "e"
  by_cases hs : isS d = true
  · cases d with
    | str x =>
      have hx := gd_str g
      have fin : isNm x = (decide (1 ≤ x.length) && (decide (x.length ≤ 8) && (cs x).all lett)) := by unfold isNm; rw [Bool.and_assoc]
      refine Cnd.no rfl ?_
      repeat walk_at "e"
      refine Cnd.of (fun c1 => ?_) (fun c1 => ?_)
      · repeat walk_at "e"
        have e : x = Str.ofString "" := by simpa using c1
        subst e
        exact ⟨congrArg D.bl (show false = isNm (Str.ofString "") by decide +kernel), rfl⟩
      · have h1 : decide (1 ≤ x.length) = true := by
          refine decide_eq_true ?_
          rcases Nat.eq_zero_or_pos x.length with z | z
          · exfalso
            have e : x = Str.ofString "" := str_eq (by
              have : cs x = [] := List.eq_nil_of_length_eq_zero (by rw [cs_len]; exact z)
              rw [this]; decide +kernel)
            rw [e] at c1
            exact absurd c1 (by decide +kernel)
          · exact z
        repeat walk_at "e"
        refine Cnd.of (fun c2 => ?_) (fun c2 => ?_)
        · repeat walk_at "e"
          have h2 : decide (x.length ≤ 8) = false := decide_eq_false (by have := of_decide_eq_true c2; omega)
          exact ⟨by show D.bl false = .bl (isNm x); rw [fin, h1, h2]; rfl, rfl⟩
        · have h2 : decide (x.length ≤ 8) = true := decide_eq_true (by have := of_decide_eq_false c2; omega)
          repeat walk_at "e"
          refine lk_some (a := signs x) rfl ?_
          rw [signs_map]
          have hlen : ((cs x).map fun c => D.str ⟨#[c]⟩).length ≤ sizeLine := by rw [List.length_map, cs_len]; exact le_line (by omega)
          refine ok_lc_pure (fun d => match d with | .str z => !(cs z).all lett | _ => false) (fun d => d) hlen (fun d hd => ?_) ?_
          · obtain ⟨c, hc, rfl⟩ := List.mem_map.mp hd
            refine ⟨_, rfl, is_of ?_, fun _ => is_of ?_⟩
            · repeat walk_at "e"
              have ez := az c
              have ec : (cs ⟨#[c]⟩).all lett = lett c := by simp [cs]
              refine lk_le_str ?_
              refine blk_bl ?_
              refine Cnd.of (fun c3 => ?_) (fun c3 => ?_)
              · repeat walk_at "e"
                refine lk_le_str ?_
                refine blk_bl ?_
                refine ⟨?_, rfl⟩
                show (!(!decide (cs (Str.ofString "z") < [c]))) = !((cs ⟨#[c]⟩).all lett)
                have c3 : (!decide (([c] : List Nat) < cs (Str.ofString "a"))) = true := c3
                rw [c3, Bool.true_and] at ez
                rw [ec, ez]
              · refine blk_bl ?_
                refine ⟨?_, rfl⟩
                have c3 : (!decide (([c] : List Nat) < cs (Str.ofString "a"))) = false := c3
                rw [c3, Bool.false_and] at ez
                show (!false) = !((cs ⟨#[c]⟩).all lett)
                rw [ec, ← ez]
            · repeat walk_at "e"
              rfl
          · repeat walk_at "e"
            have e3 : ((List.filter (fun d => match d with | .str z => !(cs z).all lett | _ => false) ((cs x).map fun c => D.str ⟨#[c]⟩)).map fun d => d).isEmpty = (cs x).all lett := by
              rw [List.map_id', List.filter_map, List.isEmpty_map]
              have : ((fun d : D => match d with | .str z => !(cs z).all lett | _ => false) ∘ fun c => D.str ⟨#[c]⟩) = fun c => !lett c := by
                funext c
                show (!(cs ⟨#[c]⟩).all lett) = !lett c
                simp [cs]
              rw [this]
              exact filter_empty
            exact ⟨by show D.bl _ = .bl (isNm x); rw [fin, h1, h2, e3]; rfl, rfl⟩
    | _ => cases hs
  · rw [Bool.not_eq_true] at hs
    refine Cnd.yes (by rw [hs]; rfl) ?_
    repeat walk_at "e"
    exact ⟨(by cases d <;> first | rfl | cases hs), rfl⟩
/-- figures, with no nought ahead -/
def figs0 (x : Str) : Bool := decide (1 ≤ x.length) && decide (x.length ≤ 40) && (cs x).all fig && ((x == Str.ofString "0") || decide ((cs x)[0]? ≠ some 48))
theorem figs_ok {x : Str} (hx : x.length ≤ 1000000) {k : Nat} {st : Sto} : run (k + 1) 2 [.str x] st = .ok (.bl (figs0 x)) st := by
  refine is_of (ok_fn (en := [some (.str x), none]) rfl ?_)
  unfold b2
  repeat walk_at "e"
  have e1 : decide ((1 : Int) ≤ (x.length : Int)) = decide (1 ≤ x.length) := decide_eq_decide.mpr (by omega)
  have e2 : decide ((x.length : Int) ≤ 40) = decide (x.length ≤ 40) := decide_eq_decide.mpr (by omega)
  refine Cnd.of (fun c1 => ?_) (fun c1 => ?_)
  · repeat walk_at "e"
    refine Cnd.of (fun c2 => ?_) (fun c2 => ?_)
    · repeat walk_at "e"
      rw [Bool.not_eq_true'] at c2
      exact ⟨by unfold figs0; rw [← e1, ← e2, c1, c2]; rfl, rfl⟩
    · rw [Bool.not_eq_false'] at c2
      repeat walk_at "e"
      refine lk_some (a := signs x) rfl ?_
      rw [signs_map]
      have hlen : ((cs x).map fun c => D.str ⟨#[c]⟩).length ≤ sizeLine := by rw [List.length_map, cs_len]; exact le_line (by omega)
      refine ok_lc_pure (fun _ => true) (fun d => .bl (match d with | .str z => (cs z).all fig | _ => false)) hlen (fun d hd => ?_) ?_
      · obtain ⟨c, hc, rfl⟩ := List.mem_map.mp hd
        refine ⟨_, rfl, rfl, fun _ => is_of ?_⟩
        repeat walk_at "e"
        refine lk_in_figs ?_
        exact ⟨by show D.bl (fig c) = .bl ((cs ⟨#[c]⟩).all fig); simp [cs], rfl⟩
      · repeat walk_at "e"
        have e3 : ((List.filter (fun _ => true) ((cs x).map fun c => D.str ⟨#[c]⟩)).map fun d => D.bl (match d with | .str z => (cs z).all fig | _ => false)) = ((cs x).map fig).map D.bl := by
          rw [List.filter_eq_self.mpr (fun _ _ => rfl), List.map_map, List.map_map]
          refine List.map_congr_left fun c _ => ?_
          show D.bl ((cs ⟨#[c]⟩).all fig) = .bl (fig c)
          simp [cs]
        rw [e3]
        refine glk_all ?_
        rw [all_map]
        repeat walk_at "e"
        refine Cnd.of (fun c3 => ?_) (fun c3 => ?_)
        · repeat walk_at "e"
          rw [Bool.not_eq_true'] at c3
          exact ⟨by unfold figs0; rw [← e1, ← e2, c1, c2, c3]; rfl, rfl⟩
        · rw [Bool.not_eq_false'] at c3
          repeat walk_at "e"
          refine Cnd.of (fun c4 => ?_) (fun c4 => ?_)
          · exact ⟨by unfold figs0; rw [← e1, ← e2, c1, c2, c3, c4]; rfl, rfl⟩
          · repeat walk_at "e"
            have hpos : 1 ≤ x.length := by have := of_decide_eq_true c1; omega
            refine lk_ix_str (le_line (by omega)) (by decide) (by omega) fun c _ hc => ?_
            repeat walk_at "e"
            refine ⟨?_, rfl⟩
            have hc : (cs x)[0]? = some c := hc
            unfold figs0
            rw [← e1, ← e2, c1, c2, c3, c4, hc]
            have z : Str.ofString "0" = ⟨#[48]⟩ := by decide +kernel
            rw [z]
            show D.bl (!((⟨#[c]⟩ : Str) == ⟨#[48]⟩)) = .bl (decide (some c ≠ some 48))
            by_cases h : c = 48
            · subst h; rfl
            · have h1 : ((⟨#[c]⟩ : Str) == ⟨#[48]⟩) = false := by
                rw [beq_eq_false_iff_ne]; intro q
                apply h
                have := congrArg cs q
                simpa [cs] using this
              rw [h1]
              simp [h]
  · repeat walk_at "e"
    exact ⟨by unfold figs0; rw [← e1, c1]; rfl, rfl⟩
end Lw

namespace Lw
open PySem PySem.Spec L2 Pd
local macro_rules | `(tactic| walk_at "d") => `(tactic| first
  | with_reducible refine sk_seq ?_ | with_reducible refine sk_set ?_ | with_reducible refine sk_ite ?_ | with_reducible refine sk_ret ?_ | with_reducible refine sk_nil ?_ | with_reducible refine sk_expr ?_
  | with_reducible refine sk_par ?_ | with_reducible refine sk_asg ?_ | with_reducible refine sk_setIx ?_ | with_reducible refine sk_star ?_ | with_reducible refine sk_for ?_ | with_reducible refine sk_retN ?_
  | with_reducible refine sk_break ?_ | with_reducible refine sk_cont ?_
  | ((with_reducible refine ok_var (d := ?d) ?h ?_); (case h => exact rfl)) | with_reducible refine ok_c ?_ | with_reducible refine ok_nil ?_ | with_reducible refine ok_cons ?_ | with_reducible refine ok_op ?_
  | with_reducible refine ok_opC ?_ | with_reducible refine ok_un ?_ | with_reducible refine ok_unC ?_ | with_reducible refine ok_not ?_ | with_reducible refine ok_and ?_ | with_reducible refine ok_or ?_
  | with_reducible refine ok_chain ?_ | with_reducible refine ok_ite ?_ | with_reducible refine ok_blt ?_ | with_reducible refine ok_call ?_ | with_reducible refine ok_oNone ?_ | with_reducible refine ok_sl ?_
  | with_reducible refine ok_dnew ?_ | with_reducible refine ok_dnewC ?_ | with_reducible refine ok_B ?_ | with_reducible refine ok_tAnd ?_ | with_reducible refine ok_tOr ?_ | with_reducible refine ok_tNot ?_
  | with_reducible refine ok_tYes ?_ | with_reducible refine ok_iAny ?_ | with_reducible refine ok_lc ?_ | with_reducible refine ok_lcC ?_
  | with_reducible refine blk_bl ?_
  | with_reducible refine Cnd.t ?_ | with_reducible refine Cnd.f ?_ | with_reducible refine Cnd.nt ?_ | with_reducible refine Cnd.nf ?_
  | with_reducible refine lk_add_int ?_ | with_reducible refine lk_sub_int ?_ | with_reducible refine lk_lt_int ?_ | with_reducible refine lk_le_int ?_ | with_reducible refine lk_gt_int ?_ | with_reducible refine lk_ge_int ?_
  | (with_reducible refine ok_tup ?_) | (with_reducible refine ok_lst ?_) | (with_reducible refine ok_lstC ?_)
  | (with_reducible refine ok_mt ?_) | (with_reducible refine ok_repl ?_)
  | (with_reducible refine ok_neg ?_) | (with_reducible refine ok_oSome ?_)
  | (with_reducible refine ok_iRng1 ?_) | (with_reducible refine ok_iRng2 ?_)
  | (with_reducible refine ⟨_, rfl, ?_⟩)
  | (refine ⟨by first | rfl | decide, ?_⟩))
local macro_rules | `(tactic| walk_at "e") => `(tactic| first
  | walk_at "d"
  | with_reducible refine lk_isi_str (by assumption) ?_ | with_reducible refine lk_isi_int (by assumption) ?_ | with_reducible refine lk_isi_bool (by assumption) ?_ | with_reducible refine lk_isi_tuple (by assumption) ?_
  | with_reducible refine lk_eq_str ?_ | with_reducible refine lk_ne_str ?_ | with_reducible refine lk_eq_int ?_ | with_reducible refine lk_ne_int ?_ | with_reducible refine lk_eq_nil ?_ | with_reducible refine lk_ne_nil ?_
  | with_reducible refine lk_eq_tnil ?_ | with_reducible refine lk_ne_tnil ?_ | with_reducible refine lk_in_strs rfl ?_ | with_reducible refine lk_nin_strs rfl ?_
  | with_reducible refine glk_len_tup ?_ | with_reducible refine glk_len_lst ?_ | with_reducible refine glk_len_str (le_line (by omega)) ?_)
theorem join_part (y : Str) : ∀ (l : List Str) (p : Str), p ∈ l → (∀ c ∈ cs p, c ∈ cs (Str.join y l)) ∧ p.length ≤ (Str.join y l).length
  | [q], p, h => by
    obtain rfl := List.mem_singleton.mp h
    exact ⟨fun c hc => hc, Nat.le_refl _⟩
  | q :: r :: l, p, h => by
    have e : Str.join y (q :: r :: l) = q ++ y ++ Str.join y (r :: l) := rfl
    rw [e]
    rcases List.mem_cons.mp h with rfl | h
    · refine ⟨fun c hc => ?_, ?_⟩
      · rw [cs_app, cs_app]; exact List.mem_append_left _ (List.mem_append_left _ hc)
      · rw [len_app, len_app]; omega
    · obtain ⟨h1, h2⟩ := join_part y (r :: l) p h
      refine ⟨fun c hc => ?_, ?_⟩
      · rw [cs_app]; exact List.mem_append_right _ (h1 c hc)
      · rw [len_app]; omega
theorem split_gd {x y p : Str} (g : gd (.str x) = true) (h : p ∈ Txt.split x y) : gd (.str p) = true := by
  obtain ⟨h1, h2⟩ := gd_str g
  have e := StrLaws.join_split x y
  obtain ⟨q1, q2⟩ := join_part y _ p h
  rw [e] at q1 q2
  unfold gd
  rw [Bool.and_eq_true, decide_eq_true_eq, List.all_eq_true]
  exact ⟨by omega, fun c hc => decide_eq_true (h2 c (q1 c hc))⟩
theorem glk_split {x : Str} (hx : x.length ≤ 1000000) {st : Sto} {Q : D → Sto → Prop} (h : Q (.lst ((Txt.split x ".").map .str)) st) : GLk (splitG (.str x) [.str "."] st) Q := by
  refine glk_some (d := .lst ((Txt.split x ".").map .str)) (st := st) ?_ h
  exact if_pos ⟨by decide +kernel, by rw [sizeLine_eq]; omega⟩
theorem figs_eq (b : Str) : figs b = (figs0 b && !(b == Str.ofString "0")) := by
  unfold figs figs0
  cases e : (b == Str.ofString "0") with
  | true =>
    have : b = Str.ofString "0" := by simpa using e
    subst this
    decide +kernel
  | false => simp
theorem far_ok {d : D} (g : gd d = true) {k : Nat} {st : Sto} : run (k + 2) 3 [d] st = .ok (.bl (farD d)) st := by
  refine is_of (ok_fn (en := [some d, none]) rfl ?_)
  unfold b3
  repeat walk_at "e"
  by_cases hs : isS d = true
  · cases d with
    | str x =>
      have hx := gd_str g
      refine Cnd.no rfl ?_
      repeat walk_at "e"
      refine glk_split hx.1 ?_
      have hg : ∀ p ∈ Txt.split x ".", gd (.str p) = true := fun p hp => split_gd g hp
      have ef : farD (.str x) = (match Txt.split x "." with | [a, b, c] => isNm a && isNm c && figs b | _ => false) := rfl
      rw [ef]
      generalize Txt.split x "." = l at hg
      repeat walk_at "e"
      by_cases hl : l.length = 3
      · match l, hl with
        | [a, b, c], _ =>
          have ha := hg a (by simp)
          have hb := hg b (by simp)
          have hc := hg c (by simp)
          refine Cnd.no rfl ?_
          repeat walk_at "e"
          refine ok_of (name_ok ha) ?_
          repeat walk_at "e"
          refine Cnd.of (fun c1 => ?_) (fun c1 => ?_)
          · repeat walk_at "e"
            have c1 : isNm a = false := by simpa [nmD] using c1
            exact ⟨by show D.bl false = .bl (isNm a && isNm c && figs b); rw [c1]; rfl, rfl⟩
          · have c1 : isNm a = true := by simpa [nmD] using c1
            repeat walk_at "e"
            refine ok_of (name_ok hc) ?_
            repeat walk_at "e"
            refine Cnd.of (fun c2 => ?_) (fun c2 => ?_)
            · repeat walk_at "e"
              have c2 : isNm c = false := by simpa [nmD] using c2
              exact ⟨by show D.bl false = .bl (isNm a && isNm c && figs b); rw [c1, c2]; rfl, rfl⟩
            · have c2 : isNm c = true := by simpa [nmD] using c2
              repeat walk_at "e"
              refine ok_of (figs_ok (gd_str hb).1) ?_
              repeat walk_at "e"
              refine Cnd.of (fun c3 => ?_) (fun c3 => ?_)
              · repeat walk_at "e"
                exact ⟨by show D.bl _ = .bl (isNm a && isNm c && figs b); rw [c1, c2, figs_eq, c3]; rfl, rfl⟩
              · exact ⟨by show D.bl _ = .bl (isNm a && isNm c && figs b); rw [c1, c2, figs_eq, c3]; rfl, rfl⟩
      · refine Cnd.yes ?_ ?_
        · rw [List.length_map]
          simp only [Bool.not_eq_true', beq_eq_false_iff_ne]
          omega
        · repeat walk_at "e"
          refine ⟨?_, rfl⟩
          match l, hl with
          | [], _ => rfl
          | [_], _ => rfl
          | [_, _], _ => rfl
          | [_, _, _], h => exact absurd rfl h
          | _ :: _ :: _ :: _ :: _, _ => rfl
    | _ => cases hs
  · rw [Bool.not_eq_true] at hs
    refine Cnd.yes (by rw [hs]; rfl) ?_
    repeat walk_at "e"
    exact ⟨(by cases d <;> first | rfl | cases hs), rfl⟩
end Lw

namespace Lw
open PySem PySem.Spec L2 Pd
local macro_rules | `(tactic| walk_at "d") => `(tactic| first
  | with_reducible refine sk_seq ?_ | with_reducible refine sk_set ?_ | with_reducible refine sk_ite ?_ | with_reducible refine sk_ret ?_ | with_reducible refine sk_nil ?_ | with_reducible refine sk_expr ?_
  | with_reducible refine sk_par ?_ | with_reducible refine sk_asg ?_ | with_reducible refine sk_setIx ?_ | with_reducible refine sk_star ?_ | with_reducible refine sk_for ?_ | with_reducible refine sk_retN ?_
  | with_reducible refine sk_break ?_ | with_reducible refine sk_cont ?_
  | ((with_reducible refine ok_var (d := ?d) ?h ?_); (case h => exact rfl)) | with_reducible refine ok_c ?_ | with_reducible refine ok_nil ?_ | with_reducible refine ok_cons ?_ | with_reducible refine ok_op ?_
  | with_reducible refine ok_opC ?_ | with_reducible refine ok_un ?_ | with_reducible refine ok_unC ?_ | with_reducible refine ok_not ?_ | with_reducible refine ok_and ?_ | with_reducible refine ok_or ?_
  | with_reducible refine ok_chain ?_ | with_reducible refine ok_ite ?_ | with_reducible refine ok_blt ?_ | with_reducible refine ok_call ?_ | with_reducible refine ok_oNone ?_ | with_reducible refine ok_sl ?_
  | with_reducible refine ok_dnew ?_ | with_reducible refine ok_dnewC ?_ | with_reducible refine ok_B ?_ | with_reducible refine ok_tAnd ?_ | with_reducible refine ok_tOr ?_ | with_reducible refine ok_tNot ?_
  | with_reducible refine ok_tYes ?_ | with_reducible refine ok_iAny ?_ | with_reducible refine ok_lc ?_ | with_reducible refine ok_lcC ?_
  | with_reducible refine blk_bl ?_
  | with_reducible refine Cnd.t ?_ | with_reducible refine Cnd.f ?_ | with_reducible refine Cnd.nt ?_ | with_reducible refine Cnd.nf ?_
  | with_reducible refine lk_add_int ?_ | with_reducible refine lk_sub_int ?_ | with_reducible refine lk_lt_int ?_ | with_reducible refine lk_le_int ?_ | with_reducible refine lk_gt_int ?_ | with_reducible refine lk_ge_int ?_
  | (with_reducible refine ok_tup ?_) | (with_reducible refine ok_lst ?_) | (with_reducible refine ok_lstC ?_)
  | (with_reducible refine ok_mt ?_) | (with_reducible refine ok_repl ?_)
  | (with_reducible refine ok_neg ?_) | (with_reducible refine ok_oSome ?_)
  | (with_reducible refine ok_iRng1 ?_) | (with_reducible refine ok_iRng2 ?_)
  | (with_reducible refine ⟨_, rfl, ?_⟩)
  | (refine ⟨by first | rfl | decide, ?_⟩))
local macro_rules | `(tactic| walk_at "e") => `(tactic| first
  | walk_at "d"
  | with_reducible refine lk_isi_str (by assumption) ?_ | with_reducible refine lk_isi_int (by assumption) ?_ | with_reducible refine lk_isi_bool (by assumption) ?_ | with_reducible refine lk_isi_tuple (by assumption) ?_
  | with_reducible refine lk_eq_str ?_ | with_reducible refine lk_ne_str ?_ | with_reducible refine lk_eq_int ?_ | with_reducible refine lk_ne_int ?_ | with_reducible refine lk_eq_nil ?_ | with_reducible refine lk_ne_nil ?_
  | with_reducible refine lk_eq_tnil ?_ | with_reducible refine lk_ne_tnil ?_ | with_reducible refine lk_in_strs rfl ?_ | with_reducible refine lk_nin_strs rfl ?_
  | with_reducible refine glk_len_tup ?_ | with_reducible refine glk_len_lst ?_ | with_reducible refine glk_len_str (le_line (by omega)) ?_)
theorem cut1_cs (b : Str) : cs (cutS b none (some 1)) = (cs b).take 1 := by
  unfold cutS
  show (((b.cps.toList.drop (HT.sIx b.length 0 none)).take (HT.sIx b.length b.length (some ((1 : Nat) : Int)) - HT.sIx b.length 0 none)).toArray).toList = _
  rw [HT.sIx_none, HT.sIx_nat, List.drop_zero, Nat.sub_zero]
  show (b.cps.toList.take (min 1 b.length)) = _
  rcases Nat.eq_zero_or_pos b.length with h | h
  · have : cs b = [] := List.eq_nil_of_length_eq_zero (by rw [cs_len]; exact h)
    show (cs b).take _ = (cs b).take 1
    rw [this]; simp
  · rw [Nat.min_eq_left h]
theorem far_ok2 {d : D} (g : gd d = true) {k : Nat} {st : Sto} : run (k + 2) 19 [d] st = .ok (.bl (farD d)) st := by
  refine is_of (ok_fn (en := [some d, none, none, none, none]) rfl ?_)
  unfold b19
  repeat walk_at "e"
  by_cases hs : isS d = true
  · cases d with
    | str x =>
      have hx := gd_str g
      refine Cnd.no rfl ?_
      repeat walk_at "e"
      refine glk_some (d := .int (Txt.count x ".")) (st := st) rfl ?_
      repeat walk_at "e"
      have hcount : ((Txt.split x ".").length : Int) = 1 + Txt.count x "." := by
        have h1 := PyProof.Rows.split_len x 46
        have h2 := PyProof.Rows.count_is x 46
        rw [← dot_is] at h1 h2
        rw [h2]; exact h1
      have hg : ∀ p ∈ Txt.split x ".", gd (.str p) = true := fun p hp => split_gd g hp
      have ef : farD (.str x) = (match Txt.split x "." with | [a, b, c] => isNm a && isNm c && figs b | _ => false) := rfl
      rw [ef]
      by_cases hl : (Txt.split x ".").length = 3
      · have h2 : Txt.count x "." = 2 := by rw [hl] at hcount; omega
        rw [h2]
        refine Cnd.no rfl ?_
        repeat walk_at "e"
        refine glk_split hx.1 ?_
        generalize Txt.split x "." = l at hg hl
        match l, hl with
        | [a, b, c], _ =>
          have ha := hg a (by simp)
          have hb := hg b (by simp)
          have hb1 := (gd_str hb).1
          have hc := hg c (by simp)
          repeat walk_at "e"
          refine lk_some (a := [some (.str x), some (.str a), some (.str b), some (.str c), none]) rfl ?_
          repeat walk_at "e"
          refine lk_some (a := D.str (cutS b none (some 1))) (if_pos (small_iff.mpr (le_line (n := b.length) (by omega)))) ?_
          repeat walk_at "e"
          have e0 : ([D.str "", D.str "0"].any fun y => PyData.eqv (py y) (.str (cutS b none (some 1)))) = ((cs b).isEmpty || decide ((cs b)[0]? = some 48)) := by
            show ((Str.ofString "" == cutS b none (some 1)) || ((Str.ofString "0" == cutS b none (some 1)) || false)) = _
            have q := cut1_cs b
            have beqs : ∀ u v : Str, (u == v) = decide (cs u = cs v) := fun u v => by
              by_cases h : u = v
              · subst h; simp
              · have : cs u ≠ cs v := fun z => h (str_eq z)
                simp [h, this]
            rw [beqs, beqs, q]
            have z1 : cs (Str.ofString "") = [] := by decide +kernel
            have z2 : cs (Str.ofString "0") = [48] := by decide +kernel
            rw [z1, z2]
            cases cs b with
            | nil => rfl
            | cons y r =>
              by_cases h : y = 48
              · subst h; rfl
              · simp [h, Ne.symm h]
          rw [e0]
          have fg : figs b = (decide (1 ≤ b.length) && (decide (b.length ≤ 40) && ((cs b).all fig && decide ((cs b)[0]? ≠ some 48)))) := by unfold figs; simp only [Bool.and_assoc]
          have fe : (cs b).isEmpty = !decide (1 ≤ b.length) := by
            rw [← cs_len]
            cases cs b <;> simp
          refine Cnd.of (fun c1 => ?_) (fun c1 => ?_)
          · repeat walk_at "e"
            refine ⟨?_, rfl⟩
            have : figs b = false := by
              rw [fg]
              rw [fe] at c1
              cases h1 : decide (1 ≤ b.length) with
              | false => rfl
              | true =>
                rw [h1] at c1
                have c1 : decide ((cs b)[0]? = some 48) = true := c1
                have : decide ((cs b)[0]? ≠ some 48) = false := by simpa using c1
                rw [this]; simp
            show D.bl false = .bl (isNm a && isNm c && figs b)
            rw [this]; simp
          · rw [Bool.or_eq_false_iff, fe] at c1
            have g1 : decide (1 ≤ b.length) = true := by simpa using c1.1
            have g2 : decide ((cs b)[0]? ≠ some 48) = true := by simpa using c1.2
            repeat walk_at "e"
            refine Cnd.of (fun c2 => ?_) (fun c2 => ?_)
            · repeat walk_at "e"
              refine ⟨?_, rfl⟩
              have : decide (b.length ≤ 40) = false := decide_eq_false (by have := of_decide_eq_true c2; omega)
              show D.bl false = .bl (isNm a && isNm c && figs b)
              rw [fg, this]; simp
            · have g3 : decide (b.length ≤ 40) = true := decide_eq_true (by have := of_decide_eq_false c2; omega)
              repeat walk_at "e"
              refine lk_some (a := signs b) rfl ?_
              rw [signs_map]
              have hlen : ((cs b).map fun c => D.str ⟨#[c]⟩).length ≤ sizeLine := by rw [List.length_map, cs_len]; exact le_line (by omega)
              refine ok_lc_pure (fun d => match d with | .str z => !(cs z).all fig | _ => false) (fun d => d) hlen (fun d hd => ?_) ?_
              · obtain ⟨c', hc', rfl⟩ := List.mem_map.mp hd
                refine ⟨_, rfl, is_of ?_, fun _ => is_of ?_⟩
                · repeat walk_at "e"
                  refine lk_nin_figs ?_
                  repeat walk_at "e"
                  exact ⟨by show (!fig c') = !((cs ⟨#[c']⟩).all fig); simp [cs], rfl⟩
                · repeat walk_at "e"
                  rfl
              · repeat walk_at "e"
                have e3 : ((List.filter (fun d => match d with | .str z => !(cs z).all fig | _ => false) ((cs b).map fun c => D.str ⟨#[c]⟩)).map fun d => d).isEmpty = (cs b).all fig := by
                  rw [List.map_id', List.filter_map, List.isEmpty_map]
                  have : ((fun d : D => match d with | .str z => !(cs z).all fig | _ => false) ∘ fun c => D.str ⟨#[c]⟩) = fun c => !fig c := by
                    funext c
                    show (!(cs ⟨#[c]⟩).all fig) = !fig c
                    simp [cs]
                  rw [this]
                  exact filter_empty
                rw [e3]
                refine Cnd.of (fun c4 => ?_) (fun c4 => ?_)
                · repeat walk_at "e"
                  refine ⟨?_, rfl⟩
                  have : (cs b).all fig = false := by simpa using c4
                  show D.bl false = .bl (isNm a && isNm c && figs b)
                  rw [fg, this]; simp
                · have g4 : (cs b).all fig = true := by simpa using c4
                  repeat walk_at "e"
                  refine ok_of (name_ok2 ha) ?_
                  have gf : figs b = true := by rw [fg, g1, g2, g3, g4]; rfl
                  repeat walk_at "e"
                  refine Cnd.of (fun c5 => ?_) (fun c5 => ?_)
                  · repeat walk_at "e"
                    refine ok_of (name_ok2 hc) ?_
                    refine ⟨?_, rfl⟩
                    have c5 : isNm a = true := c5
                    show D.bl (isNm c) = .bl (isNm a && isNm c && figs b)
                    rw [c5, gf]; simp
                  · refine ⟨?_, rfl⟩
                    have c5 : isNm a = false := c5
                    show D.bl false = .bl (isNm a && isNm c && figs b)
                    rw [c5]; rfl
      · have h2 : (!(Txt.count x "." == 2)) = true := by
          rw [Bool.not_eq_true', beq_eq_false_iff_ne]
          intro z; rw [z] at hcount; omega
        rw [h2]
        repeat walk_at "e"
        refine ⟨?_, rfl⟩
        generalize Txt.split x "." = l at hl
        match l, hl with
        | [], _ => rfl
        | [_], _ => rfl
        | [_, _], _ => rfl
        | [_, _, _], h => exact absurd rfl h
        | _ :: _ :: _ :: _ :: _, _ => rfl
    | _ => cases hs
  · rw [Bool.not_eq_true] at hs
    refine Cnd.yes (by rw [hs]; rfl) ?_
    repeat walk_at "e"
    exact ⟨(by cases d <;> first | rfl | cases hs), rfl⟩
def calD (d : D) : Bool := nmD d || farD d
theorem called_ok {d : D} (g : gd d = true) {k : Nat} {st : Sto} : run (k + 3) 4 [d] st = .ok (.bl (calD d)) st := by
  refine is_of (ok_fn (en := [some d]) rfl ?_)
  unfold b4
  repeat walk_at "e"
  refine ok_of (name_ok g) ?_
  repeat walk_at "e"
  refine Cnd.of (fun c => ?_) (fun c => ?_)
  · exact ⟨by unfold calD; rw [c]; rfl, rfl⟩
  · repeat walk_at "e"
    refine ok_of (far_ok g) ?_
    exact ⟨by unfold calD; rw [c]; rfl, rfl⟩
def mkD : D → Bool | .str w => w == "run" || w == "gone" | _ => false
theorem mark_ok {d : D} (g : gd d = true) {k : Nat} {st : Sto} : run (k + 1) 5 [d] st = .ok (.bl (mkD d)) st := by
  refine is_of (ok_fn (en := [some d]) rfl ?_)
  unfold b5
  repeat walk_at "e"
  cases d with
  | str w =>
    refine Cnd.yes rfl ?_
    repeat walk_at "e"
    refine ⟨?_, rfl⟩
    show D.bl ((Str.ofString "run" == w) || ((Str.ofString "gone" == w) || false)) = .bl (w == Str.ofString "run" || w == Str.ofString "gone")
    rw [Bool.or_false, BEq.comm (a := Str.ofString "run"), BEq.comm (a := Str.ofString "gone")]
  | _ => exact Cnd.no rfl ⟨rfl, rfl⟩
theorem mark_ok2 {d : D} (g : gd d = true) {k : Nat} {st : Sto} : run (k + 1) 20 [d] st = .ok (.bl (mkD d)) st := by
  refine is_of (ok_fn (en := [some d]) rfl ?_)
  unfold b20
  repeat walk_at "e"
  cases d with
  | str w =>
    refine Cnd.yes rfl ?_
    repeat walk_at "e"
    refine ⟨?_, rfl⟩
    show D.bl ((Str.ofString "run" == w) || ((Str.ofString "gone" == w) || false)) = .bl (w == Str.ofString "run" || w == Str.ofString "gone")
    rw [Bool.or_false, BEq.comm (a := Str.ofString "run"), BEq.comm (a := Str.ofString "gone")]
  | _ => exact Cnd.no rfl ⟨rfl, rfl⟩
end Lw

namespace Lw
open PySem PySem.Spec L2 Pd
local macro_rules | `(tactic| walk_at "d") => `(tactic| first
  | with_reducible refine sk_seq ?_ | with_reducible refine sk_set ?_ | with_reducible refine sk_ite ?_ | with_reducible refine sk_ret ?_ | with_reducible refine sk_nil ?_ | with_reducible refine sk_expr ?_
  | with_reducible refine sk_par ?_ | with_reducible refine sk_asg ?_ | with_reducible refine sk_setIx ?_ | with_reducible refine sk_star ?_ | with_reducible refine sk_for ?_ | with_reducible refine sk_retN ?_
  | with_reducible refine sk_break ?_ | with_reducible refine sk_cont ?_
  | ((with_reducible refine ok_var (d := ?d) ?h ?_); (case h => exact rfl)) | with_reducible refine ok_c ?_ | with_reducible refine ok_nil ?_ | with_reducible refine ok_cons ?_ | with_reducible refine ok_op ?_
  | with_reducible refine ok_opC ?_ | with_reducible refine ok_un ?_ | with_reducible refine ok_unC ?_ | with_reducible refine ok_not ?_ | with_reducible refine ok_and ?_ | with_reducible refine ok_or ?_
  | with_reducible refine ok_chain ?_ | with_reducible refine ok_ite ?_ | with_reducible refine ok_blt ?_ | with_reducible refine ok_call ?_ | with_reducible refine ok_oNone ?_ | with_reducible refine ok_sl ?_
  | with_reducible refine ok_dnew ?_ | with_reducible refine ok_dnewC ?_ | with_reducible refine ok_B ?_ | with_reducible refine ok_tAnd ?_ | with_reducible refine ok_tOr ?_ | with_reducible refine ok_tNot ?_
  | with_reducible refine ok_tYes ?_ | with_reducible refine ok_iAny ?_ | with_reducible refine ok_lc ?_ | with_reducible refine ok_lcC ?_
  | with_reducible refine blk_bl ?_
  | with_reducible refine Cnd.t ?_ | with_reducible refine Cnd.f ?_ | with_reducible refine Cnd.nt ?_ | with_reducible refine Cnd.nf ?_
  | with_reducible refine lk_add_int ?_ | with_reducible refine lk_sub_int ?_ | with_reducible refine lk_lt_int ?_ | with_reducible refine lk_le_int ?_ | with_reducible refine lk_gt_int ?_ | with_reducible refine lk_ge_int ?_
  | (with_reducible refine ok_tup ?_) | (with_reducible refine ok_lst ?_) | (with_reducible refine ok_lstC ?_)
  | (with_reducible refine ok_mt ?_) | (with_reducible refine ok_repl ?_)
  | (with_reducible refine ok_neg ?_) | (with_reducible refine ok_oSome ?_)
  | (with_reducible refine ok_iRng1 ?_) | (with_reducible refine ok_iRng2 ?_)
  | (with_reducible refine ⟨_, rfl, ?_⟩)
  | (refine ⟨by first | rfl | decide, ?_⟩))
local macro_rules | `(tactic| walk_at "e") => `(tactic| first
  | walk_at "d"
  | with_reducible refine lk_isi_str (by assumption) ?_ | with_reducible refine lk_isi_int (by assumption) ?_ | with_reducible refine lk_isi_bool (by assumption) ?_ | with_reducible refine lk_isi_tuple (by assumption) ?_
  | with_reducible refine lk_eq_str ?_ | with_reducible refine lk_ne_str ?_ | with_reducible refine lk_eq_int ?_ | with_reducible refine lk_ne_int ?_ | with_reducible refine lk_eq_nil ?_ | with_reducible refine lk_ne_nil ?_
  | with_reducible refine lk_eq_tnil ?_ | with_reducible refine lk_ne_tnil ?_ | with_reducible refine lk_in_strs rfl ?_ | with_reducible refine lk_nin_strs rfl ?_
  | with_reducible refine glk_len_tup ?_ | with_reducible refine glk_len_lst ?_ | with_reducible refine glk_len_str (le_line (by omega)) ?_)
abbrev dp (d : D) : Nat := (py d).depth
theorem dpL_cons (d : D) (ds : List D) : PyData.depthAll (pyL (d :: ds)) = max (py d).depth (PyData.depthAll (pyL ds)) := by simp only [pyL, PyData.depthAll]
theorem dpL_mem : ∀ {ds : List D} {e : D}, e ∈ ds → dp e ≤ PyData.depthAll (pyL ds)
  | d :: ds, e, h => by
    rw [dpL_cons]
    cases h with
    | head => exact Nat.le_max_left _ _
    | tail _ h => exact Nat.le_trans (dpL_mem h) (Nat.le_max_right _ _)
theorem dp_tup (ds : List D) : dp (.tup ds) = PyData.depthAll (pyL ds) + 1 := by simp only [dp, py, PyData.depth]
theorem dp_item {ds : List D} {e : D} (h : e ∈ ds) : dp e + 1 ≤ dp (.tup ds) := by rw [dp_tup]; have := dpL_mem h; omega
def ge0 : D → Bool | .int i => decide (0 ≤ i) | _ => false
def le9 : D → Bool | .int i => decide (i ≤ 9) | _ => false
def arT (f : D → Bool) : D → Bool | .tup ds => ds.all f | _ => false
def isT : Nat → D → Bool
  | 0, _ => false
  | n + 1, .tup (.str w :: r) =>
    if (w == Str.ofString "at") = true then (match r with | [f] => wholeD f && ge0 f | _ => false)
    else if (w == Str.ofString "world") = true then (match r with | [f] => wholeD f && (ge0 f && le9 f) | _ => false)
    else if (w == Str.ofString "to" || (w == Str.ofString "fun" || w == Str.ofString "give")) = true then (match r with | [m, a, b] => mkD m && (isT n a && isT n b) | _ => false)
    else if (w == Str.ofString "family" || w == Str.ofString "call") = true then (match r with | [c, p] => calD c && arT (isT n) p | _ => false)
    else if (w == Str.ofString "shape") = true then (match r with | [c, h, p] => calD c && (nmD h && arT (isT n) p) | _ => false)
    else if (w == Str.ofString "hole") = true then (match r with | [h] => nmD h | _ => false)
    else false
  | _ + 1, _ => false
theorem isT_no {n : Nat} {d : D} (h : isTu d = false) : isT n d = false := by
  cases n with
  | zero => rfl
  | succ n =>
    cases d with
    | tup _ => cases h
    | _ => rfl
theorem whole_int {f : D} (g : gd f = true) (h : wholeD f = true) : ∃ i, f = .int i := by
  cases f with
  | int i => exact ⟨i, rfl⟩
  | _ => cases h
theorem terms_ok {n : Nat} (T : ∀ (e : D) (st : Sto) (k : Nat), gd e = true → dp e ≤ n → 2 * n + 4 ≤ k → run k 7 [e] st = .ok (.bl (isT n e)) st) {d : D} (g : gd d = true) (hd : dp d ≤ n + 1) {k : Nat} (hk : 2 * n + 4 ≤ k) {st : Sto} :
    run (k + 1) 6 [d] st = .ok (.bl (arT (isT n) d)) st := by
  refine is_of (ok_fn (en := [some d, none]) rfl ?_)
  unfold b6
  repeat walk_at "e"
  cases d with
  | tup ds =>
    have hg := gd_tup g
    refine Cnd.yes rfl ?_
    repeat walk_at "e"
    have hlen : ds.length ≤ sizeLine := le_line (by omega)
    refine lk_some (a := ds) rfl ?_
    refine ok_lc_pure (fun _ => true) (fun d => .bl (isT n d)) hlen (fun e he => ?_) ?_
    · refine ⟨_, rfl, rfl, fun _ => is_of ?_⟩
      repeat walk_at "e"
      refine ok_of (T e _ k (gdL_mem hg.2 e he) (by have := dp_item he; omega) hk) ?_
      exact ⟨rfl, rfl⟩
    · repeat walk_at "e"
      rw [List.filter_eq_self.mpr (fun _ _ => rfl)]
      have e1 : ds.map (fun d => D.bl (isT n d)) = (ds.map (isT n)).map D.bl := by rw [List.map_map]; rfl
      rw [e1]
      refine glk_all ?_
      refine ⟨?_, rfl⟩
      show D.bl ((ds.map (isT n)).all id) = .bl (ds.all (isT n))
      rw [List.all_map]; rfl
  | _ => exact Cnd.no rfl ⟨rfl, rfl⟩
theorem terms_ok2 {n : Nat} (T : ∀ (e : D) (st : Sto) (k : Nat), gd e = true → dp e ≤ n → 2 * n + 4 ≤ k → run k 22 [e] st = .ok (.bl (isT n e)) st) {d : D} (g : gd d = true) (hd : dp d ≤ n + 1) {k : Nat} (hk : 2 * n + 4 ≤ k) {st : Sto} :
    run (k + 1) 21 [d] st = .ok (.bl (arT (isT n) d)) st := by
  refine is_of (ok_fn (en := [some d, none]) rfl ?_)
  unfold b21
  repeat walk_at "e"
  cases d with
  | tup ds =>
    have hg := gd_tup g
    refine Cnd.yes rfl ?_
    repeat walk_at "e"
    have hlen : ds.length ≤ sizeLine := le_line (by omega)
    refine lk_some (a := ds) rfl ?_
    refine ok_lc_pure (fun d => !isT n d) (fun d => d) hlen (fun e he => ?_) ?_
    · refine ⟨_, rfl, is_of ?_, fun _ => is_of ?_⟩
      · repeat walk_at "e"
        refine ok_of (T e _ k (gdL_mem hg.2 e he) (by have := dp_item he; omega) hk) ?_
        exact ⟨rfl, rfl⟩
      · repeat walk_at "e"
        rfl
    · repeat walk_at "e"
      rw [List.map_id']
      refine ⟨?_, rfl⟩
      show D.bl _ = .bl (ds.all (isT n))
      congr 1
      induction ds with
      | nil => rfl
      | cons a l ih =>
        rw [List.filter_cons, List.all_cons]
        have hl : gd (.tup l) = true := by
          unfold gd
          rw [Bool.and_eq_true, decide_eq_true_eq]
          have h2 := hg.2
          unfold gdL at h2
          rw [Bool.and_eq_true] at h2
          exact ⟨by have := hg.1; rw [List.length_cons] at this; omega, h2.2⟩
        have dl : dp (.tup l) ≤ n + 1 := by
          rw [dp_tup] at hd ⊢
          rw [dpL_cons] at hd
          have := Nat.le_max_right (py a).depth (PyData.depthAll (pyL l))
          omega
        cases isT n a with
        | true => exact ih hl dl (gd_tup hl) (by rw [List.length_cons] at hlen; omega)
        | false => rfl
  | _ => exact Cnd.no rfl ⟨rfl, rfl⟩
theorem term_ok : ∀ (n : Nat) (d : D) (st : Sto) (k : Nat), gd d = true → dp d ≤ n → 2 * n + 4 ≤ k → run k 7 [d] st = .ok (.bl (isT n d)) st
  | n, d, st, 0, _, _, hk => absurd hk (by omega)
  | n, d, st, k + 1, g, hd, hk => by
    refine is_of (ok_fn (en := [some d, none, none, none]) rfl ?_)
    unfold b7
    repeat walk_at "e"
    by_cases ht : isTu d = true
    · cases d with
      | tup ds =>
        refine Cnd.no rfl ?_
        have hg := gd_tup g
        match n, ds with
        | 0, _ => rw [dp_tup] at hd; omega
        | n + 1, [] =>
          repeat walk_at "e"
          refine Cnd.yes rfl ?_
          repeat walk_at "e"
          first | rfl | exact ⟨rfl, rfl⟩
        | n + 1, [a] =>
          repeat walk_at "e"
          refine Cnd.yes rfl ?_
          repeat walk_at "e"
          refine ⟨?_, rfl⟩
          cases a with
          | str w => unfold isT; simp
          | _ => rfl
        | n + 1, a :: f :: r =>
          have ga := gdL_mem hg.2 a (.head _)
          have gf := gdL_mem hg.2 f (.tail _ (.head _))
          have hr : ∀ e ∈ r, gd e = true ∧ dp e ≤ n := fun e he => ⟨gdL_mem hg.2 e (.tail _ (.tail _ he)), by have := dp_item (ds := a :: f :: r) (.tail _ (.tail _ he)); omega⟩
          repeat walk_at "e"
          refine Cnd.no (decide_eq_false (by rw [List.length_cons, List.length_cons]; omega)) ?_
          repeat walk_at "e"
          refine lk_ix_tup (by decide) (by rw [List.length_cons]; omega) fun a' _ ha' => ?_
          cases ha'
          repeat walk_at "e"
          by_cases hw : isS a = true
          · cases a with
            | str w =>
              refine Cnd.no rfl ?_
              repeat walk_at "e"
              refine ⟨by rw [List.length_cons, List.length_cons]; omega, ?_⟩
              show Sk ((_ : SM) [some (.tup (.str w :: f :: r)), some (.str w), some f, some (.lst r)] _) _
              have iT : isT (n + 1) (.tup (.str w :: f :: r)) = (
                  if (w == Str.ofString "at") = true then (match f :: r with | [f] => wholeD f && ge0 f | _ => false)
                  else if (w == Str.ofString "world") = true then (match f :: r with | [f] => wholeD f && (ge0 f && le9 f) | _ => false)
                  else if (w == Str.ofString "to" || (w == Str.ofString "fun" || w == Str.ofString "give")) = true then (match f :: r with | [m, a, b] => mkD m && (isT n a && isT n b) | _ => false)
                  else if (w == Str.ofString "family" || w == Str.ofString "call") = true then (match f :: r with | [c, p] => calD c && arT (isT n) p | _ => false)
                  else if (w == Str.ofString "shape") = true then (match f :: r with | [c, h, p] => calD c && (nmD h && arT (isT n) p) | _ => false)
                  else if (w == Str.ofString "hole") = true then (match f :: r with | [h] => nmD h | _ => false)
                  else false) := rfl
              rw [iT]
              repeat walk_at "e"
              refine Cnd.of (fun c1 => ?_) (fun c1 => ?_)
              · rw [if_pos c1]
                repeat walk_at "e"
                cases r with
                | cons b r => exact Cnd.no rfl ⟨rfl, rfl⟩
                | nil =>
                  refine Cnd.yes rfl ?_
                  obtain ⟨k, rfl⟩ : ∃ j, k = j + 1 := ⟨k - 1, by omega⟩
                  repeat walk_at "e"
                  refine ok_of (whole_ok gf) ?_
                  repeat walk_at "e"
                  refine Cnd.of (fun c2 => ?_) (fun c2 => ?_)
                  · obtain ⟨i, rfl⟩ := whole_int gf c2
                    repeat walk_at "e"
                    rfl
                  · refine ⟨?_, rfl⟩
                    show D.bl false = .bl (wholeD f && ge0 f)
                    rw [c2]; rfl
              rw [if_neg (by rw [c1]; exact Bool.false_ne_true)]
              repeat walk_at "e"
              refine Cnd.of (fun c1 => ?_) (fun c1 => ?_)
              · rw [if_pos c1]
                repeat walk_at "e"
                cases r with
                | cons b r => exact Cnd.no rfl ⟨rfl, rfl⟩
                | nil =>
                  refine Cnd.yes rfl ?_
                  obtain ⟨k, rfl⟩ : ∃ j, k = j + 1 := ⟨k - 1, by omega⟩
                  repeat walk_at "e"
                  refine ok_of (whole_ok gf) ?_
                  repeat walk_at "e"
                  refine Cnd.of (fun c2 => ?_) (fun c2 => ?_)
                  · obtain ⟨i, rfl⟩ := whole_int gf c2
                    repeat walk_at "e"
                    refine Cnd.of (fun c3 => ?_) (fun c3 => ?_)
                    · repeat walk_at "e"
                      refine ⟨?_, rfl⟩
                      show D.bl (decide (i ≤ 9)) = .bl (wholeD (.int i) && (decide (0 ≤ i) && decide (i ≤ 9)))
                      rw [c2, c3]; rfl
                    · refine ⟨?_, rfl⟩
                      show D.bl false = .bl (wholeD (.int i) && (decide (0 ≤ i) && decide (i ≤ 9)))
                      rw [c2, c3]; rfl
                  · refine ⟨?_, rfl⟩
                    show D.bl false = .bl (wholeD f && (ge0 f && le9 f))
                    rw [c2]; rfl
              rw [if_neg (by rw [c1]; exact Bool.false_ne_true)]
              repeat walk_at "e"
              have eA : ([D.str "to", D.str "fun", D.str "give"].any fun y => PyData.eqv (py y) (.str w)) = (w == Str.ofString "to" || (w == Str.ofString "fun" || w == Str.ofString "give")) := by
                show ((Str.ofString "to" == w) || ((Str.ofString "fun" == w) || ((Str.ofString "give" == w) || false))) = _
                rw [Bool.or_false, BEq.comm (a := Str.ofString "to"), BEq.comm (a := Str.ofString "fun"), BEq.comm (a := Str.ofString "give")]
              rw [eA]
              refine Cnd.of (fun c1 => ?_) (fun c1 => ?_)
              · rw [if_pos c1]
                repeat walk_at "e"
                match r, hr with
                | [], _ => exact Cnd.no rfl ⟨rfl, rfl⟩
                | [_], _ => exact Cnd.no rfl ⟨rfl, rfl⟩
                | _ :: _ :: _ :: _, _ => exact Cnd.no (by rw [beq_eq_false_iff_ne]; simp only [List.length_cons]; omega) ⟨rfl, rfl⟩
                | [a, b], hr =>
                  have ha := hr a (.head _)
                  have hb := hr b (.tail _ (.head _))
                  refine Cnd.yes rfl ?_
                  obtain ⟨k, rfl⟩ : ∃ j, k = j + 1 := ⟨k - 1, by omega⟩
                  repeat walk_at "e"
                  refine ok_of (mark_ok gf) ?_
                  repeat walk_at "e"
                  refine Cnd.of (fun c2 => ?_) (fun c2 => ?_)
                  · repeat walk_at "e"
                    refine ok_of (term_ok n a st (k + 1) ha.1 ha.2 (by omega)) ?_
                    repeat walk_at "e"
                    refine Cnd.of (fun c3 => ?_) (fun c3 => ?_)
                    · repeat walk_at "e"
                      refine ok_of (term_ok n b st (k + 1) hb.1 hb.2 (by omega)) ?_
                      refine ⟨?_, rfl⟩
                      show D.bl _ = .bl (mkD f && (isT n a && isT n b))
                      rw [c2, c3]; rfl
                    · refine ⟨?_, rfl⟩
                      show D.bl _ = .bl (mkD f && (isT n a && isT n b))
                      rw [c2, c3]; rfl
                  · refine ⟨?_, rfl⟩
                    show D.bl _ = .bl (mkD f && (isT n a && isT n b))
                    rw [c2]; rfl
              rw [if_neg (by rw [c1]; exact Bool.false_ne_true)]
              repeat walk_at "e"
              have eB : ([D.str "family", D.str "call"].any fun y => PyData.eqv (py y) (.str w)) = (w == Str.ofString "family" || w == Str.ofString "call") := by
                show ((Str.ofString "family" == w) || ((Str.ofString "call" == w) || false)) = _
                rw [Bool.or_false, BEq.comm (a := Str.ofString "family"), BEq.comm (a := Str.ofString "call")]
              rw [eB]
              refine Cnd.of (fun c1 => ?_) (fun c1 => ?_)
              · rw [if_pos c1]
                repeat walk_at "e"
                match r, hr with
                | [], _ => exact Cnd.no rfl ⟨rfl, rfl⟩
                | _ :: _ :: _, _ => exact Cnd.no (by rw [beq_eq_false_iff_ne]; simp only [List.length_cons]; omega) ⟨rfl, rfl⟩
                | [a], hr =>
                  have ha := hr a (.head _)
                  refine Cnd.yes rfl ?_
                  obtain ⟨k, rfl⟩ : ∃ j, k = j + 3 := ⟨k - 3, by omega⟩
                  repeat walk_at "e"
                  refine ok_of (called_ok gf) ?_
                  repeat walk_at "e"
                  refine Cnd.of (fun c2 => ?_) (fun c2 => ?_)
                  · repeat walk_at "e"
                    refine ok_of (terms_ok (n := n) (k := k + 2) (fun e st k' h1 h2 h3 => term_ok n e st k' h1 h2 h3) ha.1 (by omega) (by omega)) ?_
                    refine ⟨?_, rfl⟩
                    show D.bl _ = .bl (calD f && arT (isT n) a)
                    rw [c2]; rfl
                  · refine ⟨?_, rfl⟩
                    show D.bl _ = .bl (calD f && arT (isT n) a)
                    rw [c2]; rfl
              rw [if_neg (by rw [c1]; exact Bool.false_ne_true)]
              repeat walk_at "e"
              refine Cnd.of (fun c1 => ?_) (fun c1 => ?_)
              · rw [if_pos c1]
                repeat walk_at "e"
                match r, hr with
                | [], _ => exact Cnd.no rfl ⟨rfl, rfl⟩
                | [_], _ => exact Cnd.no rfl ⟨rfl, rfl⟩
                | _ :: _ :: _ :: _, _ => exact Cnd.no (by rw [beq_eq_false_iff_ne]; simp only [List.length_cons]; omega) ⟨rfl, rfl⟩
                | [a, b], hr =>
                  have ha := hr a (.head _)
                  have hb := hr b (.tail _ (.head _))
                  refine Cnd.yes rfl ?_
                  obtain ⟨k, rfl⟩ : ∃ j, k = j + 3 := ⟨k - 3, by omega⟩
                  repeat walk_at "e"
                  refine ok_of (called_ok gf) ?_
                  repeat walk_at "e"
                  refine Cnd.of (fun c2 => ?_) (fun c2 => ?_)
                  · repeat walk_at "e"
                    refine ok_of (name_ok ha.1) ?_
                    repeat walk_at "e"
                    refine Cnd.of (fun c3 => ?_) (fun c3 => ?_)
                    · repeat walk_at "e"
                      refine ok_of (terms_ok (n := n) (k := k + 2) (fun e st k' h1 h2 h3 => term_ok n e st k' h1 h2 h3) hb.1 (by omega) (by omega)) ?_
                      refine ⟨?_, rfl⟩
                      show D.bl _ = .bl (calD f && (nmD a && arT (isT n) b))
                      rw [c2, c3]; rfl
                    · refine ⟨?_, rfl⟩
                      show D.bl _ = .bl (calD f && (nmD a && arT (isT n) b))
                      rw [c2, c3]; rfl
                  · refine ⟨?_, rfl⟩
                    show D.bl _ = .bl (calD f && (nmD a && arT (isT n) b))
                    rw [c2]; rfl
              rw [if_neg (by rw [c1]; exact Bool.false_ne_true)]
              repeat walk_at "e"
              refine Cnd.of (fun c1 => ?_) (fun c1 => ?_)
              · rw [if_pos c1]
                repeat walk_at "e"
                cases r with
                | cons b r => exact Cnd.no rfl ⟨rfl, rfl⟩
                | nil =>
                  refine Cnd.yes rfl ?_
                  obtain ⟨k, rfl⟩ : ∃ j, k = j + 1 := ⟨k - 1, by omega⟩
                  repeat walk_at "e"
                  refine ok_of (name_ok gf) ?_
                  exact ⟨rfl, rfl⟩
              · rw [if_neg (by rw [c1]; exact Bool.false_ne_true)]
                exact ⟨rfl, rfl⟩
            | _ => cases hw
          · rw [Bool.not_eq_true] at hw
            refine Cnd.yes (by rw [hw]; rfl) ?_
            repeat walk_at "e"
            refine ⟨?_, rfl⟩
            cases a with
            | str w => cases hw
            | _ => rfl
      | _ => cases ht
    · rw [Bool.not_eq_true] at ht
      refine Cnd.yes (by rw [ht]; rfl) ?_
      repeat walk_at "e"
      rw [isT_no ht]
      exact ⟨rfl, rfl⟩
end Lw

namespace Lw
open PySem PySem.Spec L2 Pd
local macro_rules | `(tactic| walk_at "d") => `(tactic| first
  | with_reducible refine sk_seq ?_ | with_reducible refine sk_set ?_ | with_reducible refine sk_ite ?_ | with_reducible refine sk_ret ?_ | with_reducible refine sk_nil ?_ | with_reducible refine sk_expr ?_
  | with_reducible refine sk_par ?_ | with_reducible refine sk_asg ?_ | with_reducible refine sk_setIx ?_ | with_reducible refine sk_star ?_ | with_reducible refine sk_for ?_ | with_reducible refine sk_retN ?_
  | with_reducible refine sk_break ?_ | with_reducible refine sk_cont ?_
  | ((with_reducible refine ok_var (d := ?d) ?h ?_); (case h => exact rfl)) | with_reducible refine ok_c ?_ | with_reducible refine ok_nil ?_ | with_reducible refine ok_cons ?_ | with_reducible refine ok_op ?_
  | with_reducible refine ok_opC ?_ | with_reducible refine ok_un ?_ | with_reducible refine ok_unC ?_ | with_reducible refine ok_not ?_ | with_reducible refine ok_and ?_ | with_reducible refine ok_or ?_
  | with_reducible refine ok_chain ?_ | with_reducible refine ok_ite ?_ | with_reducible refine ok_blt ?_ | with_reducible refine ok_call ?_ | with_reducible refine ok_oNone ?_ | with_reducible refine ok_sl ?_
  | with_reducible refine ok_dnew ?_ | with_reducible refine ok_dnewC ?_ | with_reducible refine ok_B ?_ | with_reducible refine ok_tAnd ?_ | with_reducible refine ok_tOr ?_ | with_reducible refine ok_tNot ?_
  | with_reducible refine ok_tYes ?_ | with_reducible refine ok_iAny ?_ | with_reducible refine ok_lc ?_ | with_reducible refine ok_lcC ?_
  | with_reducible refine blk_bl ?_
  | with_reducible refine Cnd.t ?_ | with_reducible refine Cnd.f ?_ | with_reducible refine Cnd.nt ?_ | with_reducible refine Cnd.nf ?_
  | with_reducible refine lk_add_int ?_ | with_reducible refine lk_sub_int ?_ | with_reducible refine lk_lt_int ?_ | with_reducible refine lk_le_int ?_ | with_reducible refine lk_gt_int ?_ | with_reducible refine lk_ge_int ?_
  | (with_reducible refine ok_tup ?_) | (with_reducible refine ok_lst ?_) | (with_reducible refine ok_lstC ?_)
  | (with_reducible refine ok_mt ?_) | (with_reducible refine ok_repl ?_)
  | (with_reducible refine ok_neg ?_) | (with_reducible refine ok_oSome ?_)
  | (with_reducible refine ok_iRng1 ?_) | (with_reducible refine ok_iRng2 ?_)
  | (with_reducible refine ⟨_, rfl, ?_⟩)
  | (refine ⟨by first | rfl | decide, ?_⟩))
local macro_rules | `(tactic| walk_at "e") => `(tactic| first
  | walk_at "d"
  | with_reducible refine lk_isi_str (by assumption) ?_ | with_reducible refine lk_isi_int (by assumption) ?_ | with_reducible refine lk_isi_bool (by assumption) ?_ | with_reducible refine lk_isi_tuple (by assumption) ?_
  | with_reducible refine lk_eq_str ?_ | with_reducible refine lk_ne_str ?_ | with_reducible refine lk_eq_int ?_ | with_reducible refine lk_ne_int ?_ | with_reducible refine lk_eq_nil ?_ | with_reducible refine lk_ne_nil ?_
  | with_reducible refine lk_eq_tnil ?_ | with_reducible refine lk_ne_tnil ?_ | with_reducible refine lk_in_strs rfl ?_ | with_reducible refine lk_nin_strs rfl ?_
  | ((with_reducible refine lk_ixt (a := ?a) ?h ?_); (case h => exact rfl)) | ((with_reducible refine lk_ixl (a := ?a) ?h ?_); (case h => exact rfl))
  | with_reducible refine glk_len_tup ?_ | with_reducible refine glk_len_lst ?_ | with_reducible refine glk_len_str (le_line (by omega)) ?_)
theorem glk_int_bl {b : Bool} {st : Sto} {Q : D → Sto → Prop} (h : Q (.int (if b = true then 1 else 0)) st) : GLk (intG [.bl b] st) Q := h
theorem any_strs (w : Str) : ∀ ss : List Str, ((ss.map D.str).any fun y => PyData.eqv (py y) (.str w)) = ss.any fun s => w == s
  | [] => rfl
  | s :: ss => by
    rw [List.map_cons, List.any_cons, List.any_cons, any_strs w ss]
    show ((s == w) || _) = _
    rw [BEq.comm (a := s)]
def wA (w : Str) : Bool := w == Str.ofString "at"
def wW (w : Str) : Bool := w == Str.ofString "world"
def wT (w : Str) : Bool := w == Str.ofString "to" || (w == Str.ofString "fun" || w == Str.ofString "give")
def wF (w : Str) : Bool := w == Str.ofString "family" || w == Str.ofString "call"
def wS (w : Str) : Bool := w == Str.ofString "shape"
def wH (w : Str) : Bool := w == Str.ofString "hole"
def One (w : Str) (a b c d e f : Bool) : Prop := wA w = a ∧ wW w = b ∧ wT w = c ∧ wF w = d ∧ wS w = e ∧ wH w = f
/-- the words of terms -/
theorem words (w : Str) : One w true false false false false false ∨ One w false true false false false false ∨ One w false false true false false false ∨ One w false false false true false false ∨ One w false false false false true false ∨ One w false false false false false true ∨ One w false false false false false false := by
  by_cases h1 : w = Str.ofString "at"
  · subst h1; exact .inl (by unfold One; decide +kernel)
  by_cases h2 : w = Str.ofString "world"
  · subst h2; exact .inr (.inl (by unfold One; decide +kernel))
  by_cases h3 : w = Str.ofString "to"
  · subst h3; exact .inr (.inr (.inl (by unfold One; decide +kernel)))
  by_cases h4 : w = Str.ofString "fun"
  · subst h4; exact .inr (.inr (.inl (by unfold One; decide +kernel)))
  by_cases h5 : w = Str.ofString "give"
  · subst h5; exact .inr (.inr (.inl (by unfold One; decide +kernel)))
  by_cases h6 : w = Str.ofString "family"
  · subst h6; exact .inr (.inr (.inr (.inl (by unfold One; decide +kernel))))
  by_cases h7 : w = Str.ofString "call"
  · subst h7; exact .inr (.inr (.inr (.inl (by unfold One; decide +kernel))))
  by_cases h8 : w = Str.ofString "shape"
  · subst h8; exact .inr (.inr (.inr (.inr (.inl (by unfold One; decide +kernel)))))
  by_cases h9 : w = Str.ofString "hole"
  · subst h9; exact .inr (.inr (.inr (.inr (.inr (.inl (by unfold One; decide +kernel))))))
  refine .inr (.inr (.inr (.inr (.inr (.inr ?_)))))
  unfold One wA wW wT wF wS wH
  simp [h1, h2, h3, h4, h5, h6, h7, h8, h9]
theorem anyAW (w : Str) : ([D.str "at", D.str "world"].any fun y => PyData.eqv (py y) (.str w)) = (wA w || wW w) := by
  have h : _ = _ := any_strs w ["at", "world"]
  simpa [wA, wW] using h
theorem anyT (w : Str) : ([D.str "to", D.str "fun", D.str "give"].any fun y => PyData.eqv (py y) (.str w)) = wT w := by
  have h : _ = _ := any_strs w ["to", "fun", "give"]
  simpa [wT] using h
theorem anyF (w : Str) : ([D.str "family", D.str "call", D.str "shape"].any fun y => PyData.eqv (py y) (.str w)) = (wF w || wS w) := by
  have h : _ = _ := any_strs w ["family", "call", "shape"]
  simpa [wF, wS, Bool.or_assoc] using h
theorem isT_w (n : Nat) (w : Str) (r : List D) : isT (n + 1) (.tup (.str w :: r)) = (
    if wA w = true then (match r with | [f] => wholeD f && ge0 f | _ => false)
    else if wW w = true then (match r with | [f] => wholeD f && (ge0 f && le9 f) | _ => false)
    else if wT w = true then (match r with | [m, a, b] => mkD m && (isT n a && isT n b) | _ => false)
    else if wF w = true then (match r with | [c, p] => calD c && arT (isT n) p | _ => false)
    else if wS w = true then (match r with | [c, h, p] => calD c && (nmD h && arT (isT n) p) | _ => false)
    else if wH w = true then (match r with | [h] => nmD h | _ => false)
    else false) := rfl
theorem term_ok2 : ∀ (n : Nat) (d : D) (st : Sto) (k : Nat), gd d = true → dp d ≤ n → 2 * n + 4 ≤ k → run k 22 [d] st = .ok (.bl (isT n d)) st
  | n, d, st, 0, _, _, hk => absurd hk (by omega)
  | n, d, st, k + 1, g, hd, hk => by
    refine is_of (ok_fn (en := [some d, none, none, none]) rfl ?_)
    unfold b22
    repeat walk_at "e"
    by_cases ht : isTu d = true
    · cases d with
      | tup ds =>
        refine Cnd.no rfl ?_
        have hg := gd_tup g
        match n, ds with
        | 0, _ => rw [dp_tup] at hd; omega
        | n + 1, [] =>
          repeat walk_at "e"
          refine Cnd.yes rfl ?_
          repeat walk_at "e"
          first | rfl | exact ⟨rfl, rfl⟩
        | n + 1, a :: r =>
          have ga := gdL_mem hg.2 a (.head _)
          have hr : ∀ e ∈ r, gd e = true ∧ dp e ≤ n := fun e he => ⟨gdL_mem hg.2 e (.tail _ he), by have := dp_item (ds := a :: r) (.tail _ he); omega⟩
          repeat walk_at "e"
          refine Cnd.no rfl ?_
          repeat walk_at "e"
          refine lk_ix_tup (by decide) (by rw [List.length_cons]; omega) fun a' _ ha' => ?_
          cases ha'
          repeat walk_at "e"
          by_cases hw : isS a = true
          · cases a with
            | str w =>
              refine Cnd.no rfl ?_
              repeat walk_at "e"
              refine lk_ix_tup (by decide) (by rw [List.length_cons]; omega) fun a' _ ha' => ?_
              cases ha'
              repeat walk_at "e"
              rw [isT_w, anyAW]
              rcases words w with h | h | h | h | h | h | h <;> obtain ⟨hA, hW, hT, hF, hS, hH⟩ := h
              · rw [hA, hW, if_pos rfl]
                refine Cnd.yes rfl ?_
                match r, hr with
                | [], _ =>
                  repeat walk_at "e"
                  refine Cnd.no rfl ?_
                  repeat walk_at "e"
                  first | rfl | exact ⟨rfl, rfl⟩
                | _ :: _ :: _, _ =>
                  repeat walk_at "e"
                  refine Cnd.no (by rw [beq_eq_false_iff_ne]; simp only [List.length_cons]; omega) ?_
                  repeat walk_at "e"
                  first | rfl | exact ⟨rfl, rfl⟩
                | [f], hr =>
                  have gf := (hr f (.head _)).1
                  obtain ⟨k, rfl⟩ : ∃ j, k = j + 1 := ⟨k - 1, by omega⟩
                  repeat walk_at "e"
                  refine Cnd.yes rfl ?_
                  repeat walk_at "e"
                  refine ok_of (whole_ok2 gf) ?_
                  repeat walk_at "e"
                  refine Cnd.of (fun c2 => ?_) (fun c2 => ?_)
                  · obtain ⟨i, rfl⟩ := whole_int gf c2
                    repeat walk_at "e"
                    refine Cnd.of (fun c3 => ?_) (fun c3 => ?_)
                    · repeat walk_at "e"
                      refine Cnd.yes hA ?_
                      refine ⟨?_, rfl⟩
                      show D.bl true = .bl (wholeD (.int i) && decide (0 ≤ i))
                      rw [c2, c3]; rfl
                    · refine ⟨?_, rfl⟩
                      show D.bl false = .bl (wholeD (.int i) && decide (0 ≤ i))
                      rw [c2, c3]; rfl
                  · repeat walk_at "e"
                    refine ⟨?_, rfl⟩
                    show D.bl false = .bl (wholeD f && ge0 f)
                    rw [c2]; rfl
              · rw [hA, hW, if_neg Bool.false_ne_true, if_pos rfl]
                refine Cnd.yes rfl ?_
                match r, hr with
                | [], _ =>
                  repeat walk_at "e"
                  refine Cnd.no rfl ?_
                  repeat walk_at "e"
                  first | rfl | exact ⟨rfl, rfl⟩
                | _ :: _ :: _, _ =>
                  repeat walk_at "e"
                  refine Cnd.no (by rw [beq_eq_false_iff_ne]; simp only [List.length_cons]; omega) ?_
                  repeat walk_at "e"
                  first | rfl | exact ⟨rfl, rfl⟩
                | [f], hr =>
                  have gf := (hr f (.head _)).1
                  obtain ⟨k, rfl⟩ : ∃ j, k = j + 1 := ⟨k - 1, by omega⟩
                  repeat walk_at "e"
                  refine Cnd.yes rfl ?_
                  repeat walk_at "e"
                  refine ok_of (whole_ok2 gf) ?_
                  repeat walk_at "e"
                  refine Cnd.of (fun c2 => ?_) (fun c2 => ?_)
                  · obtain ⟨i, rfl⟩ := whole_int gf c2
                    repeat walk_at "e"
                    refine Cnd.of (fun c3 => ?_) (fun c3 => ?_)
                    · repeat walk_at "e"
                      refine Cnd.no hA ?_
                      repeat walk_at "e"
                      refine ⟨?_, rfl⟩
                      show D.bl (decide (i < 10)) = .bl (wholeD (.int i) && (decide (0 ≤ i) && decide (i ≤ 9)))
                      rw [c2, c3]
                      have : decide (i < 10) = decide (i ≤ 9) := decide_eq_decide.mpr (by omega)
                      rw [this]; rfl
                    · refine ⟨?_, rfl⟩
                      show D.bl false = .bl (wholeD (.int i) && (decide (0 ≤ i) && decide (i ≤ 9)))
                      rw [c2, c3]; rfl
                  · repeat walk_at "e"
                    refine ⟨?_, rfl⟩
                    show D.bl false = .bl (wholeD f && (ge0 f && le9 f))
                    rw [c2]; rfl
              · rw [hA, hW, hT, if_neg Bool.false_ne_true, if_neg Bool.false_ne_true, if_pos rfl]
                refine Cnd.no rfl ?_
                repeat walk_at "e"
                rw [anyT, hT]
                refine Cnd.t ?_
                match r, hr with
                | [], _ =>
                  repeat walk_at "e"
                  refine Cnd.no rfl ?_
                  exact ⟨rfl, rfl⟩
                | [_], _ =>
                  repeat walk_at "e"
                  refine Cnd.no rfl ?_
                  exact ⟨rfl, rfl⟩
                | [_, _], _ =>
                  repeat walk_at "e"
                  refine Cnd.no rfl ?_
                  exact ⟨rfl, rfl⟩
                | _ :: _ :: _ :: _ :: _, _ =>
                  repeat walk_at "e"
                  refine Cnd.no (by rw [beq_eq_false_iff_ne]; simp only [List.length_cons]; omega) ?_
                  exact ⟨rfl, rfl⟩
                | [f, a, b], hr =>
                  have gf := (hr f (.head _)).1
                  have ha := hr a (.tail _ (.head _))
                  have hb := hr b (.tail _ (.tail _ (.head _)))
                  obtain ⟨k, rfl⟩ : ∃ j, k = j + 1 := ⟨k - 1, by omega⟩
                  repeat walk_at "e"
                  refine Cnd.yes rfl ?_
                  repeat walk_at "e"
                  refine ok_of (mark_ok2 gf) ?_
                  repeat walk_at "e"
                  refine Cnd.of (fun c2 => ?_) (fun c2 => ?_)
                  · repeat walk_at "e"
                    refine ok_of (term_ok2 n a st (k + 1) ha.1 ha.2 (by omega)) ?_
                    repeat walk_at "e"
                    refine Cnd.of (fun c3 => ?_) (fun c3 => ?_)
                    · repeat walk_at "e"
                      refine ok_of (term_ok2 n b st (k + 1) hb.1 hb.2 (by omega)) ?_
                      refine ⟨?_, rfl⟩
                      show D.bl _ = .bl (mkD f && (isT n a && isT n b))
                      rw [c2, c3]; rfl
                    · refine ⟨?_, rfl⟩
                      show D.bl _ = .bl (mkD f && (isT n a && isT n b))
                      rw [c2, c3]; rfl
                  · refine ⟨?_, rfl⟩
                    show D.bl _ = .bl (mkD f && (isT n a && isT n b))
                    rw [c2]; rfl
              · rw [hA, hW, hT, hF, if_neg Bool.false_ne_true, if_neg Bool.false_ne_true, if_neg Bool.false_ne_true, if_pos rfl]
                refine Cnd.no rfl ?_
                repeat walk_at "e"
                rw [anyT, hT]
                refine Cnd.f ?_
                repeat walk_at "e"
                refine Cnd.no hH ?_
                repeat walk_at "e"
                rw [anyF, hF, hS]
                refine Cnd.no rfl ?_
                repeat walk_at "e"
                refine glk_int_bl ?_
                rw [show (w == Str.ofString "shape") = false from hS]
                repeat walk_at "e"
                match r, hr with
                | [], _ =>
                  refine Cnd.yes rfl ?_
                  repeat walk_at "e"
                  first | rfl | exact ⟨rfl, rfl⟩
                | [_], _ =>
                  refine Cnd.yes rfl ?_
                  repeat walk_at "e"
                  first | rfl | exact ⟨rfl, rfl⟩
                | _ :: _ :: _ :: _, _ =>
                  refine Cnd.yes (by rw [Bool.not_eq_true', beq_eq_false_iff_ne]; simp only [List.length_cons]; first | omega | (simp; omega)) ?_
                  repeat walk_at "e"
                  first | rfl | exact ⟨rfl, rfl⟩
                | [f, p], hr =>
                  have gf := (hr f (.head _)).1
                  have hp := hr p (.tail _ (.head _))
                  obtain ⟨k, rfl⟩ : ∃ j, k = j + 3 := ⟨k - 3, by omega⟩
                  refine Cnd.no rfl ?_
                  have tail : ∀ (en : En), en = [some (.tup (.str w :: [f, p])), some (.str w), some (.int ((D.str w :: [f, p]).length : Nat)), none] → calD f = true → Ok (mAnd (mOr (mOp neD (mVar 1) (mC (.str "shape"))) (mCall (run (k + 3) 18) 1 (lCons (mOp ixD (mVar 0) (mC (.int 2))) (lNil)))) (mCall (run (k + 3) 21) 1 (lCons (mOp ixD (mVar 0) (mNeg (mC (.int 1)))) (lNil))) en st) (fun r st' => r = .bl (calD f && arT (isT n) p) ∧ st' = st) NoE := by
                    rintro _ rfl hc
                    repeat walk_at "e"
                    refine Cnd.yes (by rw [show (w == Str.ofString "shape") = false from hS]; rfl) ?_
                    repeat walk_at "e"
                    refine ok_of (terms_ok2 (n := n) (k := k + 2) (fun e st k' h1 h2 h3 => term_ok2 n e st k' h1 h2 h3) hp.1 (by omega) (by omega)) ?_
                    refine ⟨?_, rfl⟩
                    rw [hc]; rfl
                  repeat walk_at "e"
                  refine ok_of (name_ok2 gf) ?_
                  repeat walk_at "e"
                  refine Cnd.of (fun c2 => ?_) (fun c2 => ?_)
                  · have c2 : nmD f = false := by simpa using c2
                    repeat walk_at "e"
                    refine ok_of (far_ok2 gf) ?_
                    repeat walk_at "e"
                    refine Cnd.of (fun c3 => ?_) (fun c3 => ?_)
                    · have c3 : farD f = false := by simpa using c3
                      repeat walk_at "e"
                      refine ⟨?_, rfl⟩
                      show D.bl false = .bl (calD f && arT (isT n) p)
                      unfold calD
                      rw [c2, c3]; rfl
                    · have c3 : farD f = true := by simpa using c3
                      refine sk_nil ?_
                      refine sk_ret ?_
                      exact tail _ rfl (by unfold calD; rw [c2, c3]; rfl)
                  · have c2 : nmD f = true := by simpa using c2
                    refine Cnd.f ?_
                    refine sk_nil ?_
                    refine sk_ret ?_
                    exact tail _ rfl (by unfold calD; rw [c2]; rfl)
              · rw [hA, hW, hT, hF, hS, if_neg Bool.false_ne_true, if_neg Bool.false_ne_true, if_neg Bool.false_ne_true, if_neg Bool.false_ne_true, if_pos rfl]
                refine Cnd.no rfl ?_
                repeat walk_at "e"
                rw [anyT, hT]
                refine Cnd.f ?_
                repeat walk_at "e"
                refine Cnd.no hH ?_
                repeat walk_at "e"
                rw [anyF, hF, hS]
                refine Cnd.no rfl ?_
                repeat walk_at "e"
                refine glk_int_bl ?_
                rw [show (w == Str.ofString "shape") = true from hS]
                repeat walk_at "e"
                match r, hr with
                | [], _ =>
                  refine Cnd.yes rfl ?_
                  repeat walk_at "e"
                  first | rfl | exact ⟨rfl, rfl⟩
                | [_], _ =>
                  refine Cnd.yes rfl ?_
                  repeat walk_at "e"
                  first | rfl | exact ⟨rfl, rfl⟩
                | [_, _], _ =>
                  refine Cnd.yes rfl ?_
                  repeat walk_at "e"
                  first | rfl | exact ⟨rfl, rfl⟩
                | _ :: _ :: _ :: _ :: _, _ =>
                  refine Cnd.yes (by rw [Bool.not_eq_true', beq_eq_false_iff_ne]; simp only [List.length_cons]; first | omega | (simp; omega)) ?_
                  repeat walk_at "e"
                  first | rfl | exact ⟨rfl, rfl⟩
                | [f, h, p], hr =>
                  have gf := (hr f (.head _)).1
                  have gh := (hr h (.tail _ (.head _))).1
                  have hp := hr p (.tail _ (.tail _ (.head _)))
                  obtain ⟨k, rfl⟩ : ∃ j, k = j + 3 := ⟨k - 3, by omega⟩
                  refine Cnd.no rfl ?_
                  have tail : ∀ (en : En), en = [some (.tup (.str w :: [f, h, p])), some (.str w), some (.int ((D.str w :: [f, h, p]).length : Nat)), none] → calD f = true → Ok (mAnd (mOr (mOp neD (mVar 1) (mC (.str "shape"))) (mCall (run (k + 3) 18) 1 (lCons (mOp ixD (mVar 0) (mC (.int 2))) (lNil)))) (mCall (run (k + 3) 21) 1 (lCons (mOp ixD (mVar 0) (mNeg (mC (.int 1)))) (lNil))) en st) (fun r st' => r = .bl (calD f && (nmD h && arT (isT n) p)) ∧ st' = st) NoE := by
                    rintro _ rfl hc
                    repeat walk_at "e"
                    refine Cnd.no (by rw [show (w == Str.ofString "shape") = true from hS]; rfl) ?_
                    repeat walk_at "e"
                    refine ok_of (name_ok2 gh) ?_
                    repeat walk_at "e"
                    refine Cnd.of (fun c3 => ?_) (fun c3 => ?_)
                    · repeat walk_at "e"
                      refine ok_of (terms_ok2 (n := n) (k := k + 2) (fun e st k' h1 h2 h3 => term_ok2 n e st k' h1 h2 h3) hp.1 (by omega) (by omega)) ?_
                      refine ⟨?_, rfl⟩
                      rw [hc, c3]; rfl
                    · refine ⟨?_, rfl⟩
                      rw [hc, c3]; rfl
                  repeat walk_at "e"
                  refine ok_of (name_ok2 gf) ?_
                  repeat walk_at "e"
                  refine Cnd.of (fun c2 => ?_) (fun c2 => ?_)
                  · have c2 : nmD f = false := by simpa using c2
                    repeat walk_at "e"
                    refine ok_of (far_ok2 gf) ?_
                    repeat walk_at "e"
                    refine Cnd.of (fun c3 => ?_) (fun c3 => ?_)
                    · have c3 : farD f = false := by simpa using c3
                      repeat walk_at "e"
                      refine ⟨?_, rfl⟩
                      show D.bl false = .bl (calD f && (nmD h && arT (isT n) p))
                      unfold calD
                      rw [c2, c3]; rfl
                    · have c3 : farD f = true := by simpa using c3
                      refine sk_nil ?_
                      refine sk_ret ?_
                      exact tail _ rfl (by unfold calD; rw [c2, c3]; rfl)
                  · have c2 : nmD f = true := by simpa using c2
                    refine Cnd.f ?_
                    refine sk_nil ?_
                    refine sk_ret ?_
                    exact tail _ rfl (by unfold calD; rw [c2]; rfl)
              · rw [hA, hW, hT, hF, hS, hH, if_neg Bool.false_ne_true, if_neg Bool.false_ne_true, if_neg Bool.false_ne_true, if_neg Bool.false_ne_true, if_neg Bool.false_ne_true, if_pos rfl]
                refine Cnd.no rfl ?_
                repeat walk_at "e"
                rw [anyT, hT]
                refine Cnd.f ?_
                repeat walk_at "e"
                refine Cnd.yes hH ?_
                match r, hr with
                | [], _ =>
                  repeat walk_at "e"
                  refine Cnd.no rfl ?_
                  exact ⟨rfl, rfl⟩
                | _ :: _ :: _, _ =>
                  repeat walk_at "e"
                  refine Cnd.no (by rw [beq_eq_false_iff_ne]; simp only [List.length_cons]; omega) ?_
                  exact ⟨rfl, rfl⟩
                | [f], hr =>
                  have gf := (hr f (.head _)).1
                  obtain ⟨k, rfl⟩ : ∃ j, k = j + 1 := ⟨k - 1, by omega⟩
                  repeat walk_at "e"
                  refine Cnd.yes rfl ?_
                  repeat walk_at "e"
                  refine ok_of (name_ok2 gf) ?_
                  exact ⟨rfl, rfl⟩
              · rw [hA, hW, hT, hF, hS, hH, if_neg Bool.false_ne_true, if_neg Bool.false_ne_true, if_neg Bool.false_ne_true, if_neg Bool.false_ne_true, if_neg Bool.false_ne_true, if_neg Bool.false_ne_true]
                refine Cnd.no rfl ?_
                repeat walk_at "e"
                rw [anyT, hT]
                refine Cnd.f ?_
                repeat walk_at "e"
                refine Cnd.no hH ?_
                repeat walk_at "e"
                rw [anyF, hF, hS]
                refine Cnd.yes rfl ?_
                repeat walk_at "e"
                first | rfl | exact ⟨rfl, rfl⟩
            | _ => cases hw
          · rw [Bool.not_eq_true] at hw
            refine Cnd.yes (by rw [hw]; rfl) ?_
            repeat walk_at "e"
            refine ⟨?_, rfl⟩
            cases a with
            | str w => cases hw
            | _ => rfl
      | _ => cases ht
    · rw [Bool.not_eq_true] at ht
      refine Cnd.yes (by rw [ht]; rfl) ?_
      repeat walk_at "e"
      rw [isT_no ht]
      exact ⟨rfl, rfl⟩
end Lw

namespace Lw
open PySem PySem.Spec L2 Pd
mutual
/-- ascii, no changeable object -/
def asc : D → Bool
  | .non | .bl _ | .int _ => true
  | .str x => (cs x).all fun c => decide (c < 128)
  | .tup ds | .lst ds => ascL ds
  | .dct ks ds => decide (ks.length = ds.length) && decide (ks = [.inl 0] ∨ ks = []) && ascL ds
  | .cell _ | .glob _ | .scr _ => false
def ascL : List D → Bool
  | [] => true
  | d :: ds => asc d && ascL ds
end
mutual
/-- at least what it takes to show it -/
def wt : D → Nat
  | .non | .bl _ => 8
  | .int _ => 500
  | .str x => 10 * x.length + 8
  | .tup ds | .lst ds => wtL ds + 8
  | .dct ks ds => 10 * ks.length + wtL ds + 8
  | .cell _ | .glob _ | .scr _ => 8
def wtL : List D → Nat
  | [] => 0
  | d :: ds => wt d + 4 + wtL ds
end
mutual
def mx : D → Nat
  | .int i => i.natAbs
  | .tup ds | .lst ds | .dct _ ds => mxL ds
  | .non | .bl _ | .str _ | .cell _ | .glob _ | .scr _ => 0
def mxL : List D → Nat
  | [] => 0
  | d :: ds => max (mx d) (mxL ds)
end
theorem ascL_mem : ∀ {ds : List D}, ascL ds = true → ∀ d ∈ ds, asc d = true
  | d :: ds, h, e, he => by
    unfold ascL at h
    rw [Bool.and_eq_true] at h
    cases he with
    | head => exact h.1
    | tail _ he => exact ascL_mem h.2 e he
theorem ascL_of : ∀ {ds : List D}, (∀ d ∈ ds, asc d = true) → ascL ds = true
  | [], _ => by unfold ascL; rfl
  | d :: ds, h => by
    unfold ascL
    rw [Bool.and_eq_true]
    exact ⟨h d (.head _), ascL_of fun e he => h e (.tail _ he)⟩
theorem wtL_cons (d : D) (ds : List D) : wtL (d :: ds) = wt d + 4 + wtL ds := by simp only [wtL]
theorem wtL_nil : wtL [] = 0 := by simp only [wtL]
theorem wtL_app : ∀ (ds es : List D), wtL (ds ++ es) = wtL ds + wtL es
  | [], es => by rw [wtL_nil]; simp
  | d :: ds, es => by rw [List.cons_append, wtL_cons, wtL_cons, wtL_app ds es]; omega
theorem mxL_cons (d : D) (ds : List D) : mxL (d :: ds) = max (mx d) (mxL ds) := by simp only [mxL]
theorem mxL_nil : mxL [] = 0 := by simp only [mxL]
theorem mxL_le {M : Nat} : ∀ {ds : List D}, (∀ d ∈ ds, mx d ≤ M) → mxL ds ≤ M
  | [], _ => by rw [mxL_nil]; omega
  | d :: ds, h => by
    rw [mxL_cons]
    exact Nat.max_le.mpr ⟨h d (.head _), mxL_le fun e he => h e (.tail _ he)⟩
theorem mxL_mem : ∀ {ds : List D} {e : D}, e ∈ ds → mx e ≤ mxL ds
  | d :: ds, e, h => by
    rw [mxL_cons]
    cases h with
    | head => exact Nat.le_max_left _ _
    | tail _ h => exact Nat.le_trans (mxL_mem h) (Nat.le_max_right _ _)
theorem wtL_mem : ∀ {ds : List D} {e : D}, e ∈ ds → wt e + 4 ≤ wtL ds
  | d :: ds, e, h => by
    rw [wtL_cons]
    cases h with
    | head => omega
    | tail _ h => have := wtL_mem h; omega
theorem wt_pos : ∀ d : D, 8 ≤ wt d
  | .non => by simp only [wt]; omega
  | .bl _ => by simp only [wt]; omega
  | .int _ => by simp only [wt]; omega
  | .str _ => by simp only [wt]; omega
  | .tup _ => by simp only [wt]; omega
  | .lst _ => by simp only [wt]; omega
  | .dct _ _ => by simp only [wt]; omega
  | .cell _ => by simp only [wt]; omega
  | .glob _ => by simp only [wt]; omega
  | .scr _ => by simp only [wt]; omega
theorem wtL_len : ∀ ds : List D, 12 * ds.length ≤ wtL ds
  | [] => by rw [wtL_nil]; simp
  | d :: ds => by
    rw [wtL_cons, List.length_cons]
    have := wtL_len ds
    have := wt_pos d
    omega
theorem dpL_le {N : Nat} : ∀ {ds : List D}, (∀ d ∈ ds, dp d ≤ N) → PyData.depthAll (pyL ds) ≤ N
  | [], _ => by simp only [pyL, PyData.depthAll]; omega
  | d :: ds, h => by
    rw [dpL_cons]
    exact Nat.max_le.mpr ⟨h d (.head _), dpL_le fun e he => h e (.tail _ he)⟩
theorem dp_lst (ds : List D) : dp (.lst ds) = PyData.depthAll (pyL ds) + 1 := by simp only [dp, py, PyData.depth]
/-- data of bounded weight, numbers, depth -/
structure Bx (W M N : Nat) (d : D) : Prop where
  a : asc d = true
  w : wt d ≤ W
  m : mx d ≤ M
  n : dp d ≤ N
theorem Bx.mono {W M N W' M' N' : Nat} {d : D} (h : Bx W M N d) (a : W ≤ W') (b : M ≤ M') (c : N ≤ N') : Bx W' M' N' d := ⟨h.a, Nat.le_trans h.w a, Nat.le_trans h.m b, Nat.le_trans h.n c⟩
theorem Bx.item {W M N : Nat} {ds : List D} {e : D} (h : Bx W M N (.tup ds)) (he : e ∈ ds) : Bx W M N e := by
  have ha := h.a; have hw := h.w; have hm := h.m; have hn := h.n
  simp only [asc] at ha
  simp only [wt] at hw
  simp only [mx] at hm
  have := dp_item he
  have := wtL_mem he
  have := mxL_mem he
  exact ⟨ascL_mem ha e he, by omega, by omega, by omega⟩
theorem Bx.tup {W M N : Nat} {ds : List D} (h : ∀ d ∈ ds, Bx W M N d) (hw : wtL ds + 8 ≤ W') (hn : N + 1 ≤ N') : Bx W' M N' (.tup ds) := by
  refine ⟨by simp only [asc]; exact ascL_of fun d hd => (h d hd).a, by simp only [wt]; exact hw, by simp only [mx]; exact mxL_le fun d hd => (h d hd).m, ?_⟩
  rw [dp_tup]
  have := dpL_le fun d hd => (h d hd).n
  omega
theorem Bx.lst {W M N : Nat} {ds : List D} (h : ∀ d ∈ ds, Bx W M N d) (hw : wtL ds + 8 ≤ W') (hn : N + 1 ≤ N') : Bx W' M N' (.lst ds) := by
  refine ⟨by simp only [asc]; exact ascL_of fun d hd => (h d hd).a, by simp only [wt]; exact hw, by simp only [mx]; exact mxL_le fun d hd => (h d hd).m, ?_⟩
  rw [dp_lst]
  have := dpL_le fun d hd => (h d hd).n
  omega
mutual
theorem gd_of : ∀ {d : D}, asc d = true → wt d ≤ 900000 → mx d ≤ 10 ^ 40 → gd d = true
  | .non, _, _, _ => by unfold gd; rfl
  | .bl _, _, _, _ => by unfold gd; rfl
  | .int i, _, _, h => by
    simp only [mx] at h
    unfold gd
    refine decide_eq_true ?_
    by_cases z : i.natAbs = 0
    · rw [z]; decide
    · refine (Nat.log2_lt z).mpr (Nat.lt_of_le_of_lt h ?_)
      decide +kernel
  | .str x, a, w, _ => by
    simp only [asc] at a
    simp only [wt] at w
    unfold gd
    rw [Bool.and_eq_true, decide_eq_true_eq]
    exact ⟨by omega, a⟩
  | .tup ds, a, w, m => by
    simp only [asc] at a
    simp only [wt] at w
    simp only [mx] at m
    unfold gd
    rw [Bool.and_eq_true, decide_eq_true_eq]
    exact ⟨by have := wtL_len ds; omega, gdL_of' a (by omega) m⟩
  | .lst ds, a, w, m => by
    simp only [asc] at a
    simp only [wt] at w
    simp only [mx] at m
    unfold gd
    rw [Bool.and_eq_true, decide_eq_true_eq]
    exact ⟨by have := wtL_len ds; omega, gdL_of' a (by omega) m⟩
  | .dct ks ds, a, w, m => by
    simp only [asc, Bool.and_eq_true] at a
    simp only [wt] at w
    simp only [mx] at m
    unfold gd
    rw [Bool.and_eq_true, Bool.and_eq_true]
    exact ⟨a.1, gdL_of' a.2 (by omega) m⟩
  | .cell _, a, _, _ => by simp only [asc] at a; cases a
  | .glob _, a, _, _ => by simp only [asc] at a; cases a
  | .scr _, a, _, _ => by simp only [asc] at a; cases a
theorem gdL_of' : ∀ {ds : List D}, ascL ds = true → wtL ds ≤ 900000 → mxL ds ≤ 10 ^ 40 → gdL ds = true
  | [], _, _, _ => by unfold gdL; rfl
  | d :: ds, a, w, m => by
    simp only [ascL, Bool.and_eq_true] at a
    rw [wtL_cons] at w
    rw [mxL_cons] at m
    unfold gdL
    rw [Bool.and_eq_true]
    exact ⟨gd_of a.1 (by omega) (Nat.le_trans (Nat.le_max_left _ _) m), gdL_of' a.2 (by omega) (Nat.le_trans (Nat.le_max_right _ _) m)⟩
end
theorem Bx.gd {W M N : Nat} {d : D} (h : Bx W M N d) (hW : W ≤ 900000) (hM : M ≤ 10 ^ 40) : gd d = true := gd_of h.a (Nat.le_trans h.w hW) (Nat.le_trans h.m hM)
theorem listText_le (ts : List Str) : (listText ts).length ≤ (ts.map (·.length)).sum + 2 * ts.length + 2 := by
  rw [listText_eq_join, len_app, len_app]
  have h := StrLaws.join_length_le (Str.ofString ", ") ts
  have e : (Str.ofString ", ").length = 2 := by decide +kernel
  have e1 : (Str.ofString "[").length = 1 := by decide +kernel
  have e2 : (Str.ofString "]").length = 1 := by decide +kernel
  rw [e] at h
  rw [e1, e2]
  omega
theorem tupleText_le (ts : List Str) : (tupleText ts).length ≤ (ts.map (·.length)).sum + 2 * ts.length + 3 := by
  unfold tupleText
  rw [len_app, len_app]
  have h := StrLaws.join_length_le (Str.ofString ", ") ts
  have e : (Str.ofString ", ").length = 2 := by decide +kernel
  have e1 : (Str.ofString "(").length = 1 := by decide +kernel
  have e2 : (Str.ofString (if ts.length == 1 then ",)" else ")")).length ≤ 2 := by split <;> decide +kernel
  rw [e] at h
  rw [e1]
  omega
theorem dictText_le (ts : List Str) : (dictText ts).length ≤ (ts.map (·.length)).sum + 2 * ts.length + 2 := by
  unfold dictText
  rw [len_app, len_app]
  have h := StrLaws.join_length_le (Str.ofString ", ") ts
  have e : (Str.ofString ", ").length = 2 := by decide +kernel
  have e1 : (Str.ofString "{").length = 1 := by decide +kernel
  have e2 : (Str.ofString "}").length = 1 := by decide +kernel
  rw [e] at h
  rw [e1, e2]
  omega
mutual
theorem shown_le : ∀ {d : D}, asc d = true → mx d ≤ 10 ^ 40 → (py d).shown.length ≤ wt d ∧ pur d = true ∧ (py d).showable = true
  | .non, _, _ => ⟨by simp only [py, PyData.shown, wt]; decide +kernel, rfl, rfl⟩
  | .bl b, _, _ => ⟨by simp only [py, PyData.shown, wt]; cases b <;> decide +kernel, rfl, rfl⟩
  | .int i, _, h => by
    simp only [mx] at h
    have hl : i.natAbs.log2 < 134 := by
      by_cases z : i.natAbs = 0
      · rw [z]; decide
      · refine (Nat.log2_lt z).mpr (Nat.lt_of_le_of_lt h ?_)
        decide +kernel
    refine ⟨?_, rfl, ?_⟩
    · simp only [py, PyData.shown, wt]
      have := int_text_length_le10 (a := i) (k := 41) (by decide) (by
        have : (10 : Nat) ^ 40 < 10 ^ 41 := by decide +kernel
        omega)
      have e : (Str.ofString (toString i)).length = (toString i).length := by
        rw [← cs_len]
        show ((Str.ofString (toString i)).cps.toList).length = _
        rw [PyProof.Rows.signs_ofString, List.length_map, String.length_toList]
      omega
    · simp only [py, PyData.showable]
      exact decide_eq_true (by omega)
  | .str x, a, _ => by
    simp only [asc] at a
    refine ⟨?_, rfl, rfl⟩
    simp only [py, PyData.shown, wt]
    have := StrLaws.reprText_len x fun c hc => by
      have := of_decide_eq_true (List.all_eq_true.mp a c hc)
      have h2 : (128 : Nat) < 16 ^ 8 := by decide +kernel
      omega
    omega
  | .tup ds, a, m => by
    simp only [asc] at a
    simp only [mx] at m
    obtain ⟨h1, h2, h3⟩ := shownL_le a m
    refine ⟨?_, by unfold pur; exact h2, by simp only [py, PyData.showable]; exact h3⟩
    simp only [py, PyData.shown, wt]
    have := tupleText_le (PyData.shownAll (pyL ds))
    omega
  | .lst ds, a, m => by
    simp only [asc] at a
    simp only [mx] at m
    obtain ⟨h1, h2, h3⟩ := shownL_le a m
    refine ⟨?_, by unfold pur; exact h2, by simp only [py, PyData.showable]; exact h3⟩
    simp only [py, PyData.shown, wt]
    have := listText_le (PyData.shownAll (pyL ds))
    omega
  | .dct ks ds, a, m => by
    simp only [asc, Bool.and_eq_true, decide_eq_true_eq] at a
    simp only [mx] at m
    obtain ⟨h1, h2, h3⟩ := shownL_le a.2 m
    refine ⟨?_, by unfold pur; exact h2, ?_⟩
    · simp only [py, PyData.shown, wt]
      rcases a.1.2 with rfl | rfl
      · match ds, a.1.1 with
        | [d], _ =>
          have := dictText_le (PyData.shownKv ((List.map keyPy [Sum.inl 0]).zip (pyL [d])))
          have e : PyData.shownKv ((List.map keyPy [Sum.inl 0]).zip (pyL [d])) = [(PyData.int 0).shown ++ Str.ofString ": " ++ (py d).shown] := by simp [keyPy, pyL, PyData.shownKv]
          have e1 : PyData.shownAll (pyL [d]) = [(py d).shown] := by simp [pyL, PyData.shownAll]
          rw [e1] at h1
          rw [e] at this ⊢
          simp only [List.map_cons, List.map_nil, List.sum_cons, List.sum_nil, List.length_cons, List.length_nil, len_app] at this h1 ⊢
          have q1 : ((PyData.int 0).shown).length = 1 := by decide +kernel
          have q2 : (Str.ofString ": ").length = 2 := by decide +kernel
          omega
      · match ds, a.1.1 with
        | [], _ => simp only [List.map_nil, List.zip_nil_left, PyData.shownKv]; decide +kernel
    · simp only [py, PyData.showable]
      rcases a.1.2 with rfl | rfl
      · match ds, a.1.1 with
        | [d], _ =>
          simp [keyPy, pyL, PyData.showableKv, PyData.showable, PyData.showableAll] at h3 ⊢
          exact h3
      · simp [PyData.showableKv]
  | .cell _, a, _ => by simp only [asc] at a; cases a
  | .glob _, a, _ => by simp only [asc] at a; cases a
  | .scr _, a, _ => by simp only [asc] at a; cases a
theorem shownL_le : ∀ {ds : List D}, ascL ds = true → mxL ds ≤ 10 ^ 40 → ((PyData.shownAll (pyL ds)).map (·.length)).sum + 2 * (PyData.shownAll (pyL ds)).length ≤ wtL ds ∧ purL ds = true ∧ PyData.showableAll (pyL ds) = true
  | [], _, _ => ⟨by simp [pyL, PyData.shownAll], by unfold purL; rfl, by simp [pyL, PyData.showableAll]⟩
  | d :: ds, a, m => by
    simp only [ascL, Bool.and_eq_true] at a
    rw [mxL_cons] at m
    obtain ⟨h1, h2, h3⟩ := shown_le a.1 (Nat.le_trans (Nat.le_max_left _ _) m)
    obtain ⟨g1, g2, g3⟩ := shownL_le a.2 (Nat.le_trans (Nat.le_max_right _ _) m)
    refine ⟨?_, by unfold purL; rw [h2, g2]; rfl, by simp only [pyL, PyData.showableAll]; rw [h3, g3]; rfl⟩
    rw [wtL_cons]
    simp only [pyL, PyData.shownAll, List.map_cons, List.sum_cons, List.length_cons]
    omega
end
end Lw

namespace Lw
open PySem PySem.Spec L2 Pd
local macro_rules | `(tactic| walk_at "d") => `(tactic| first
  | with_reducible refine sk_seq ?_ | with_reducible refine sk_set ?_ | with_reducible refine sk_ite ?_ | with_reducible refine sk_ret ?_ | with_reducible refine sk_nil ?_ | with_reducible refine sk_expr ?_
  | with_reducible refine sk_par ?_ | with_reducible refine sk_asg ?_ | with_reducible refine sk_setIx ?_ | with_reducible refine sk_star ?_ | with_reducible refine sk_for ?_ | with_reducible refine sk_retN ?_
  | with_reducible refine sk_break ?_ | with_reducible refine sk_cont ?_
  | ((with_reducible refine ok_var (d := ?d) ?h ?_); (case h => exact rfl)) | with_reducible refine ok_c ?_ | with_reducible refine ok_nil ?_ | with_reducible refine ok_cons ?_ | with_reducible refine ok_op ?_
  | with_reducible refine ok_opC ?_ | with_reducible refine ok_un ?_ | with_reducible refine ok_unC ?_ | with_reducible refine ok_not ?_ | with_reducible refine ok_and ?_ | with_reducible refine ok_or ?_
  | with_reducible refine ok_chain ?_ | with_reducible refine ok_ite ?_ | with_reducible refine ok_blt ?_ | with_reducible refine ok_call ?_ | with_reducible refine ok_oNone ?_ | with_reducible refine ok_sl ?_
  | with_reducible refine ok_dnew ?_ | with_reducible refine ok_dnewC ?_ | with_reducible refine ok_B ?_ | with_reducible refine ok_tAnd ?_ | with_reducible refine ok_tOr ?_ | with_reducible refine ok_tNot ?_
  | with_reducible refine ok_tYes ?_ | with_reducible refine ok_iAny ?_ | with_reducible refine ok_lc ?_ | with_reducible refine ok_lcC ?_
  | with_reducible refine blk_bl ?_
  | with_reducible refine Cnd.t ?_ | with_reducible refine Cnd.f ?_ | with_reducible refine Cnd.nt ?_ | with_reducible refine Cnd.nf ?_
  | with_reducible refine lk_add_int ?_ | with_reducible refine lk_sub_int ?_ | with_reducible refine lk_lt_int ?_ | with_reducible refine lk_le_int ?_ | with_reducible refine lk_gt_int ?_ | with_reducible refine lk_ge_int ?_
  | (with_reducible refine ok_tup ?_) | (with_reducible refine ok_lst ?_) | (with_reducible refine ok_lstC ?_)
  | (with_reducible refine ok_mt ?_) | (with_reducible refine ok_repl ?_)
  | (with_reducible refine ok_neg ?_) | (with_reducible refine ok_oSome ?_)
  | (with_reducible refine ok_iRng1 ?_) | (with_reducible refine ok_iRng2 ?_)
  | (with_reducible refine ⟨_, rfl, ?_⟩)
  | (refine ⟨by first | rfl | decide, ?_⟩))
local macro_rules | `(tactic| walk_at "e") => `(tactic| first
  | walk_at "d"
  | with_reducible refine lk_isi_str (by assumption) ?_ | with_reducible refine lk_isi_int (by assumption) ?_ | with_reducible refine lk_isi_bool (by assumption) ?_ | with_reducible refine lk_isi_tuple (by assumption) ?_
  | with_reducible refine lk_eq_str ?_ | with_reducible refine lk_ne_str ?_ | with_reducible refine lk_eq_int ?_ | with_reducible refine lk_ne_int ?_ | with_reducible refine lk_eq_nil ?_ | with_reducible refine lk_ne_nil ?_
  | with_reducible refine lk_eq_tnil ?_ | with_reducible refine lk_ne_tnil ?_ | with_reducible refine lk_in_strs rfl ?_ | with_reducible refine lk_nin_strs rfl ?_
  | ((with_reducible refine lk_ixt (a := ?a) ?h ?_); (case h => exact rfl)) | ((with_reducible refine lk_ixl (a := ?a) ?h ?_); (case h => exact rfl))
  | with_reducible refine glk_len_tup ?_ | with_reducible refine glk_len_lst ?_ | with_reducible refine glk_len_str (le_line (by omega)) ?_)
theorem glk_repr {W M N : Nat} {d : D} {st : Sto} {Q : D → Sto → Prop} (b : Bx W M N d) (hW : W ≤ 900000) (hM : M ≤ 10 ^ 40) (hN : N ≤ 150) (h : Q (.str (py d).shown) st) : GLk (reprG [d] st) Q := by
  obtain ⟨h1, h2, h3⟩ := shown_le b.a (Nat.le_trans b.m hM)
  have e : frz st d = d := by
    cases d with
    | cell n => have := b.a; simp only [asc] at this; cases this
    | _ => rfl
  refine glk_some (d := .str (py d).shown) (st := st) ?_ h
  show (reprB (frz st d)).map _ = _
  rw [e]
  unfold reprB
  rw [if_pos ⟨h2, h3, le_line (by have := b.w; omega), Nat.le_trans b.n hN⟩]
  rfl
theorem bx3 (a b c : Bool) : Bx 100 0 1 (.lst [.bl a, .bl b, .bl c]) := by
  refine Bx.lst (W := 8) (N := 0) (fun d hd => ?_) ?_ (by decide)
  · have : d = .bl a ∨ d = .bl b ∨ d = .bl c := by simpa using hd
    rcases this with rfl | rfl | rfl <;> exact ⟨rfl, by simp only [wt]; omega, by simp only [mx]; omega, Nat.le_refl 0⟩
  · simp only [wtL, wt]; omega
/-- the law's look agrees with the program's -/
theorem right_ok {W M N : Nat} {d : D} (b : Bx W M N d) (hW : W ≤ 900000) (hM : M ≤ 10 ^ 40) (hN : N ≤ 80) {k : Nat} (hk : 170 ≤ k) {st : Sto} : run k 23 [d] st = .ok (.bl true) st := by
  obtain ⟨k, rfl⟩ : ∃ j, k = j + 1 := ⟨k - 1, by omega⟩
  have g := b.gd hW hM
  have T1 : run k 7 [d] st = .ok (.bl (isT 80 d)) st := term_ok 80 d st k g (Nat.le_trans b.n hN) (by omega)
  have T2 : run k 22 [d] st = .ok (.bl (isT 80 d)) st := term_ok2 80 d st k g (Nat.le_trans b.n hN) (by omega)
  obtain ⟨j, rfl⟩ : ∃ j, k = j + 2 := ⟨k - 2, by omega⟩
  refine is_of (ok_fn (en := [some d, none, none, none]) rfl ?_)
  unfold b23
  repeat walk_at "e"
  refine glk_repr b hW hM (by omega) ?_
  repeat walk_at "e"
  refine ok_of T2 ?_
  repeat walk_at "e"
  refine ok_of (name_ok2 g) ?_
  repeat walk_at "e"
  refine ok_of (far_ok2 g) ?_
  repeat walk_at "e"
  refine ⟨le_line (by show 3 ≤ 16777216; decide), ?_⟩
  refine glk_repr (bx3 _ _ _) (by decide) (by decide) (by decide) ?_
  repeat walk_at "e"
  refine sk_forLoop (I := fun _ en st' => st' = st ∧ ∃ o, en = [some d, some (.str (py d).shown), some (.str (py (D.lst [D.bl (isT 80 d), D.bl (nmD d), D.bl (farD d)])).shown), o]) (fun en st' h => ?_) (fun x xs en st' h => ?_) _ _ _ ⟨rfl, _, rfl⟩
  · obtain ⟨rfl, o, rfl⟩ := h
    repeat walk_at "e"
    rfl
  · obtain ⟨rfl, o, rfl⟩ := h
    refine lk_some rfl ?_
    repeat walk_at "e"
    refine ok_of T1 ?_
    repeat walk_at "e"
    refine ok_of (name_ok g) ?_
    repeat walk_at "e"
    refine ok_of (far_ok g) ?_
    repeat walk_at "e"
    refine ⟨le_line (by show 3 ≤ 16777216; decide), ?_⟩
    refine glk_repr (bx3 _ _ _) (by decide) (by decide) (by decide) ?_
    repeat walk_at "e"
    refine Cnd.no (by simp) ?_
    repeat walk_at "e"
    refine glk_repr b hW hM (by omega) ?_
    repeat walk_at "e"
    refine Cnd.no (by simp) ?_
    repeat walk_at "e"
    exact ⟨_, rfl⟩
end Lw

namespace Lw
open PySem PySem.Spec L2 Pd
local macro_rules | `(tactic| walk_at "d") => `(tactic| first
  | with_reducible refine sk_seq ?_ | with_reducible refine sk_set ?_ | with_reducible refine sk_ite ?_ | with_reducible refine sk_ret ?_ | with_reducible refine sk_nil ?_ | with_reducible refine sk_expr ?_
  | with_reducible refine sk_par ?_ | with_reducible refine sk_asg ?_ | with_reducible refine sk_setIx ?_ | with_reducible refine sk_star ?_ | with_reducible refine sk_for ?_ | with_reducible refine sk_retN ?_
  | with_reducible refine sk_break ?_ | with_reducible refine sk_cont ?_
  | ((with_reducible refine ok_var (d := ?d) ?h ?_); (case h => exact rfl)) | with_reducible refine ok_c ?_ | with_reducible refine ok_nil ?_ | with_reducible refine ok_cons ?_ | with_reducible refine ok_op ?_
  | with_reducible refine ok_opC ?_ | with_reducible refine ok_un ?_ | with_reducible refine ok_unC ?_ | with_reducible refine ok_not ?_ | with_reducible refine ok_and ?_ | with_reducible refine ok_or ?_
  | with_reducible refine ok_chain ?_ | with_reducible refine ok_ite ?_ | with_reducible refine ok_blt ?_ | with_reducible refine ok_call ?_ | with_reducible refine ok_oNone ?_ | with_reducible refine ok_sl ?_
  | with_reducible refine ok_dnew ?_ | with_reducible refine ok_dnewC ?_ | with_reducible refine ok_B ?_ | with_reducible refine ok_tAnd ?_ | with_reducible refine ok_tOr ?_ | with_reducible refine ok_tNot ?_
  | with_reducible refine ok_tYes ?_ | with_reducible refine ok_iAny ?_ | with_reducible refine ok_lc ?_ | with_reducible refine ok_lcC ?_
  | with_reducible refine blk_bl ?_
  | with_reducible refine Cnd.t ?_ | with_reducible refine Cnd.f ?_ | with_reducible refine Cnd.nt ?_ | with_reducible refine Cnd.nf ?_
  | with_reducible refine lk_add_int ?_ | with_reducible refine lk_sub_int ?_ | with_reducible refine lk_lt_int ?_ | with_reducible refine lk_le_int ?_ | with_reducible refine lk_gt_int ?_ | with_reducible refine lk_ge_int ?_
  | (with_reducible refine ok_tup ?_) | (with_reducible refine ok_lst ?_) | (with_reducible refine ok_lstC ?_)
  | (with_reducible refine ok_mt ?_) | (with_reducible refine ok_repl ?_)
  | (with_reducible refine ok_neg ?_) | (with_reducible refine ok_oSome ?_)
  | (with_reducible refine ok_iRng1 ?_) | (with_reducible refine ok_iRng2 ?_)
  | (with_reducible refine ⟨_, rfl, ?_⟩)
  | (refine ⟨by first | rfl | decide, ?_⟩))
local macro_rules | `(tactic| walk_at "e") => `(tactic| first
  | walk_at "d"
  | with_reducible refine lk_isi_str (by assumption) ?_ | with_reducible refine lk_isi_int (by assumption) ?_ | with_reducible refine lk_isi_bool (by assumption) ?_ | with_reducible refine lk_isi_tuple (by assumption) ?_
  | with_reducible refine lk_eq_str ?_ | with_reducible refine lk_ne_str ?_ | with_reducible refine lk_eq_int ?_ | with_reducible refine lk_ne_int ?_ | with_reducible refine lk_eq_nil ?_ | with_reducible refine lk_ne_nil ?_
  | with_reducible refine lk_eq_tnil ?_ | with_reducible refine lk_ne_tnil ?_ | with_reducible refine lk_in_strs rfl ?_ | with_reducible refine lk_nin_strs rfl ?_
  | ((with_reducible refine lk_ixt (a := ?a) ?h ?_); (case h => exact rfl)) | ((with_reducible refine lk_ixl (a := ?a) ?h ?_); (case h => exact rfl))
  | with_reducible refine glk_len_tup ?_ | with_reducible refine glk_len_lst ?_ | with_reducible refine glk_len_str (le_line (by omega)) ?_)
theorem rng0 (n : Nat) : rng 0 n = (List.range n).map fun i => D.int (i : Nat) := by unfold rng; simp
theorem join_cs : ∀ ys : List Str, cs (Txt.join (Str.ofString "") ys) = (ys.map cs).flatten := fun ys => by
  show cs (Builtin.Str.glued _ ys) = _
  rw [StrLaws.glued_eq_join]
  induction ys with
  | nil => decide +kernel
  | cons y ys ih =>
    cases ys with
    | nil => show cs y = _; simp
    | cons z zs =>
      have e : Str.join (Str.ofString "") (y :: z :: zs) = y ++ Str.ofString "" ++ Str.join (Str.ofString "") (z :: zs) := rfl
      have e0 : cs (Str.ofString "") = [] := by decide +kernel
      rw [e, cs_app, cs_app, e0, ih]
      simp
theorem strsD_map (ys : List Str) : strsD (ys.map D.str) = some ys := by
  induction ys with
  | nil => rfl
  | cons y ys ih => show (strsD (ys.map D.str)).map (y :: ·) = _; rw [ih]; rfl
theorem letters_len : (Str.ofString "abcdefghijklmnopqrstuvwxyz").length = 26 := by decide +kernel
theorem name_gen {st : Sto} {n m : Nat} {t : Int} (D0 : Dk st n m t) (ht : t ≤ 10 ^ 19) {k : Nat} {E : ErP} :
    Ok (run (k + 2) 10 [.cell n] st) (fun d st' => ∃ x, d = .str x ∧ isNm x = true ∧ Dk st' n m (t + 4) ∧ Fr n m st st') E := by
  refine ok_fn (en := [some (.cell n), none, none, none, none, none]) rfl ?_
  unfold b10
  repeat walk_at "e"
  refine (draw_ok D0 (by omega) (by decide) (by decide)).to ?_
  rintro _ st1 ⟨i, rfl, h0, h1, D1, F1⟩
  repeat walk_at "e"
  refine ⟨le_line (by show 4 ≤ 16777216; decide), ?_⟩
  refine (draw_ok D1 (by omega) (by decide) (by decide)).to ?_
  rintro _ st2 ⟨j, rfl, j0, j1, D2, F2⟩
  repeat walk_at "e"
  refine lk_ix_lst j0 (by show j < 4; exact j1) fun d hd _ => ?_
  obtain ⟨w, rfl, w1, w2⟩ : ∃ w : Int, d = .int w ∧ 1 ≤ w ∧ w ≤ 8 := by
    have : d = .int 1 ∨ d = .int 8 ∨ d = .int (1 + i) ∨ d = .int 2 := by simpa using hd
    rcases this with rfl | rfl | rfl | rfl
    · exact ⟨_, rfl, by decide, by decide⟩
    · exact ⟨_, rfl, by decide, by decide⟩
    · exact ⟨_, rfl, by omega, by omega⟩
    · exact ⟨_, rfl, by decide, by decide⟩
  repeat walk_at "e"
  refine (draw_ok D2 (by omega) (by decide) (by decide)).to ?_
  rintro _ st3 ⟨f, rfl, f0, f1, D3, F3⟩
  repeat walk_at "e"
  refine (draw_ok D3 (by omega) (by decide) (by decide)).to ?_
  rintro _ st4 ⟨g, rfl, g0, g1, D4, F4⟩
  repeat walk_at "e"
  refine ⟨by omega, by omega, ?_⟩
  refine ok_lcLoop (I := fun acc rest st' => st' = st4 ∧ ∃ (ys : List Str) (a : Nat), acc = ys.map D.str ∧ rest = ((List.range w.toNat).map fun i => D.int (i : Nat)).drop a ∧ ys.length = a ∧ a ≤ w.toNat ∧ ∀ y ∈ ys, ∃ c, y = ⟨#[c]⟩ ∧ lett c = true) (fun acc st' h => ?_) (fun d ds acc st' h => ?_) _ _ _ ⟨rfl, [], 0, rfl, by rw [rng0]; rfl, rfl, Nat.zero_le _, fun _ z => nomatch z⟩
  · obtain ⟨rfl, ys, a, rfl, h1, h2, h3, h4⟩ := h
    have ha : a = w.toNat := by
      have := congrArg List.length h1
      rw [List.length_drop, List.length_map, List.length_range, List.length_nil] at this
      omega
    repeat walk_at "e"
    have hcs : cs (Txt.join (Str.ofString "") ys) = (ys.map cs).flatten := join_cs ys
    have hlen : (Txt.join (Str.ofString "") ys).length = ys.length := by
      rw [← cs_len, hcs]
      clear h1 h2 hcs
      induction ys with
      | nil => rfl
      | cons y ys ih =>
        obtain ⟨c, rfl, _⟩ := h4 y (.head _)
        rw [List.map_cons, List.flatten_cons, List.length_append, ih (fun z hz => h4 z (.tail _ hz))]
        show 1 + ys.length = ys.length + 1
        omega
    refine glk_some (d := .str (Txt.join (Str.ofString "") ys)) (st := st') ?_ ?_
    · show ((some (ys.map D.str)).bind strsD).bind _ = _
      show (strsD (ys.map D.str)).bind _ = _
      rw [strsD_map]
      refine if_pos ?_
      have : (ys.map (·.length)).sum = ys.length := by
        clear h1 h2 hcs hlen
        induction ys with
        | nil => rfl
        | cons y ys ih =>
          obtain ⟨c, rfl, _⟩ := h4 y (.head _)
          rw [List.map_cons, List.sum_cons, ih (fun z hz => h4 z (.tail _ hz))]
          show 1 + ys.length = ys.length + 1
          omega
      rw [this]
      have e0 : (Str.ofString "").length = 0 := by decide +kernel
      rw [e0]
      omega
    · refine ⟨_, rfl, ?_, D4.more (by omega), ((F1.trans F2).trans F3).trans F4⟩
      unfold isNm
      rw [hlen, hcs]
      simp only [Bool.and_eq_true, decide_eq_true_eq, List.all_eq_true]
      refine ⟨⟨by omega, by omega⟩, fun c hc => ?_⟩
      obtain ⟨l, hl, hcl⟩ := List.mem_flatten.mp hc
      obtain ⟨y, hy, rfl⟩ := List.mem_map.mp hl
      obtain ⟨c', rfl, hc'⟩ := h4 y hy
      have : c = c' := by simpa [cs] using hcl
      rw [this]; exact hc'
  · obtain ⟨rfl, ys, a, rfl, h1, h2, h3, h4⟩ := h
    have ha : a < w.toNat := by
      have := congrArg List.length h1
      rw [List.length_drop, List.length_map, List.length_range, List.length_cons] at this
      omega
    have hd : d = .int (a : Nat) ∧ ds = ((List.range w.toNat).map fun i => D.int (i : Nat)).drop (a + 1) := by
      have hl : a < ((List.range w.toNat).map fun i => D.int (i : Nat)).length := by simpa using ha
      rw [List.drop_eq_getElem_cons hl] at h1
      injection h1 with q1 q2
      exact ⟨by rw [q1]; simp, q2⟩
    obtain ⟨rfl, rfl⟩ := hd
    refine lk_some rfl ?_
    repeat walk_at "e"
    refine lk_mul_small (by omega) (by omega) (by omega) (by omega) ?_
    repeat walk_at "e"
    refine lk_mod_gen (by decide) fun r r0 r1 => ?_
    refine lk_ix_str (le_line (by rw [letters_len]; decide)) r0 (by rw [letters_len]; exact r1) fun c hc _ => ?_
    refine ⟨Nat.lt_of_lt_of_le (by rw [List.length_map]; omega) (le_line (n := 10) (by decide)), rfl, ys ++ [⟨#[c]⟩], a + 1, by rw [List.map_append]; rfl, rfl, by rw [List.length_append, h2]; rfl, by omega, fun y hy => ?_⟩
    rcases List.mem_append.mp hy with hy | hy
    · exact h4 y hy
    · obtain rfl := List.mem_singleton.mp hy
      refine ⟨c, rfl, ?_⟩
      have : c ∈ cs (Str.ofString "abcdefghijklmnopqrstuvwxyz") := hc
      rw [letters_cs] at this
      obtain ⟨i', hi', rfl⟩ := List.mem_map.mp this
      have := List.mem_range.mp hi'
      unfold lett
      simp only [Bool.and_eq_true, decide_eq_true_eq]
      omega
end Lw

namespace Lw
open PySem PySem.Spec L2 Pd
local macro_rules | `(tactic| walk_at "d") => `(tactic| first
  | with_reducible refine sk_seq ?_ | with_reducible refine sk_set ?_ | with_reducible refine sk_ite ?_ | with_reducible refine sk_ret ?_ | with_reducible refine sk_nil ?_ | with_reducible refine sk_expr ?_
  | with_reducible refine sk_par ?_ | with_reducible refine sk_asg ?_ | with_reducible refine sk_setIx ?_ | with_reducible refine sk_star ?_ | with_reducible refine sk_for ?_ | with_reducible refine sk_retN ?_
  | with_reducible refine sk_break ?_ | with_reducible refine sk_cont ?_
  | ((with_reducible refine ok_var (d := ?d) ?h ?_); (case h => exact rfl)) | with_reducible refine ok_c ?_ | with_reducible refine ok_nil ?_ | with_reducible refine ok_cons ?_ | with_reducible refine ok_op ?_
  | with_reducible refine ok_opC ?_ | with_reducible refine ok_un ?_ | with_reducible refine ok_unC ?_ | with_reducible refine ok_not ?_ | with_reducible refine ok_and ?_ | with_reducible refine ok_or ?_
  | with_reducible refine ok_chain ?_ | with_reducible refine ok_ite ?_ | with_reducible refine ok_blt ?_ | with_reducible refine ok_call ?_ | with_reducible refine ok_oNone ?_ | with_reducible refine ok_sl ?_
  | with_reducible refine ok_dnew ?_ | with_reducible refine ok_dnewC ?_ | with_reducible refine ok_B ?_ | with_reducible refine ok_tAnd ?_ | with_reducible refine ok_tOr ?_ | with_reducible refine ok_tNot ?_
  | with_reducible refine ok_tYes ?_ | with_reducible refine ok_iAny ?_ | with_reducible refine ok_lc ?_ | with_reducible refine ok_lcC ?_
  | with_reducible refine blk_bl ?_
  | with_reducible refine Cnd.t ?_ | with_reducible refine Cnd.f ?_ | with_reducible refine Cnd.nt ?_ | with_reducible refine Cnd.nf ?_
  | with_reducible refine lk_add_int ?_ | with_reducible refine lk_sub_int ?_ | with_reducible refine lk_lt_int ?_ | with_reducible refine lk_le_int ?_ | with_reducible refine lk_gt_int ?_ | with_reducible refine lk_ge_int ?_
  | (with_reducible refine ok_tup ?_) | (with_reducible refine ok_lst ?_) | (with_reducible refine ok_lstC ?_)
  | (with_reducible refine ok_mt ?_) | (with_reducible refine ok_repl ?_)
  | (with_reducible refine ok_neg ?_) | (with_reducible refine ok_oSome ?_)
  | (with_reducible refine ok_iRng1 ?_) | (with_reducible refine ok_iRng2 ?_)
  | (with_reducible refine ⟨_, rfl, ?_⟩)
  | (refine ⟨by first | rfl | decide, ?_⟩))
local macro_rules | `(tactic| walk_at "e") => `(tactic| first
  | walk_at "d"
  | with_reducible refine lk_isi_str (by assumption) ?_ | with_reducible refine lk_isi_int (by assumption) ?_ | with_reducible refine lk_isi_bool (by assumption) ?_ | with_reducible refine lk_isi_tuple (by assumption) ?_
  | with_reducible refine lk_eq_str ?_ | with_reducible refine lk_ne_str ?_ | with_reducible refine lk_eq_int ?_ | with_reducible refine lk_ne_int ?_ | with_reducible refine lk_eq_nil ?_ | with_reducible refine lk_ne_nil ?_
  | with_reducible refine lk_eq_tnil ?_ | with_reducible refine lk_ne_tnil ?_ | with_reducible refine lk_in_strs rfl ?_ | with_reducible refine lk_nin_strs rfl ?_
  | ((with_reducible refine lk_ixt (a := ?a) ?h ?_); (case h => exact rfl)) | ((with_reducible refine lk_ixl (a := ?a) ?h ?_); (case h => exact rfl))
  | with_reducible refine glk_len_tup ?_ | with_reducible refine glk_len_lst ?_ | with_reducible refine glk_len_str (le_line (by omega)) ?_)
theorem nm_facts {x : Str} (h : isNm x = true) : 1 ≤ x.length ∧ x.length ≤ 8 ∧ ∀ c ∈ cs x, c < 128 := by
  unfold isNm at h
  simp only [Bool.and_eq_true, decide_eq_true_eq, List.all_eq_true] at h
  refine ⟨h.1.1, h.1.2, fun c hc => ?_⟩
  have := h.2 c hc
  unfold lett at this
  simp only [Bool.and_eq_true, decide_eq_true_eq] at this
  omega
theorem figs_facts {x : Str} (h : figs x = true) : 1 ≤ x.length ∧ x.length ≤ 40 ∧ ∀ c ∈ cs x, c < 128 := by
  unfold figs at h
  simp only [Bool.and_eq_true, decide_eq_true_eq, List.all_eq_true] at h
  refine ⟨h.1.1.1, h.1.1.2, fun c hc => ?_⟩
  have := h.1.2 c hc
  unfold fig at this
  simp only [Bool.and_eq_true, decide_eq_true_eq] at this
  omega
def asS (x : Str) : Prop := ∀ c ∈ cs x, c < 128
theorem asS.app {x y : Str} (h : asS x) (h' : asS y) : asS (x ++ y) := fun c hc => by
  rw [cs_app] at hc
  rcases List.mem_append.mp hc with q | q
  · exact h c q
  · exact h' c q
theorem asS_lit {s : String} (h : ((Str.ofString s).cps.toList.all fun c => decide (c < 128)) = true) : asS (Str.ofString s) := fun c hc => of_decide_eq_true (List.all_eq_true.mp h c hc)
theorem asc_str {x : Str} (h : asS x) : asc (.str x) = true := by
  simp only [asc]
  exact List.all_eq_true.mpr fun c hc => decide_eq_true (h c hc)
theorem Bx.str {x : Str} (h : asS x) {W M N : Nat} (hw : 10 * x.length + 8 ≤ W) : Bx W M N (.str x) := ⟨asc_str h, by simp only [wt]; exact hw, by simp only [mx]; omega, Nat.zero_le _⟩
theorem Bx.int {i : Int} {W M N : Nat} (hm : i.natAbs ≤ M) (hw : 500 ≤ W) : Bx W M N (.int i) := ⟨by simp only [asc], by simp only [wt]; exact hw, by simp only [mx]; exact hm, Nat.zero_le _⟩
theorem dot1 : (Str.ofString ".").length = 1 := by decide +kernel
theorem far_gen {st : Sto} {n m : Nat} {t : Int} (D0 : Dk st n m t) (ht : t ≤ 10 ^ 18) {k : Nat} {E : ErP} :
    Ok (run (k + 3) 11 [.cell n] st) (fun d st' => ∃ x, d = .str x ∧ isFarS x = true ∧ x.length ≤ 60 ∧ asS x ∧ Dk st' n m (t + 20) ∧ Fr n m st st') E := by
  refine ok_fn (en := [some (.cell n), none]) rfl ?_
  unfold b11
  repeat walk_at "e"
  refine (draw_ok D0 (by omega) (by decide) (by decide)).to ?_
  rintro _ st1 ⟨i, rfl, h0, h1, D1, F1⟩
  repeat walk_at "e"
  refine lk_pow (by decide) ?_
  refine ⟨le_line (by show 5 ≤ 16777216; decide), ?_⟩
  refine (draw_ok D1 (by omega) (by decide) (by decide)).to ?_
  rintro _ st2 ⟨j, rfl, j0, j1, D2, F2⟩
  repeat walk_at "e"
  refine lk_ix_lst j0 (by show j < 5; exact j1) fun d hd _ => ?_
  obtain ⟨w, rfl, w1, w2⟩ : ∃ w : Int, d = .int w ∧ 1 ≤ w ∧ w ≤ 10 ^ 39 := by
    have : d = .int 1 ∨ d = .int 9 ∨ d = .int 10 ∨ d = .int (1 + i) ∨ d = .int (10 ^ (39 : Int).toNat) := by simpa using hd
    rcases this with rfl | rfl | rfl | rfl | rfl
    · exact ⟨_, rfl, by decide, by decide⟩
    · exact ⟨_, rfl, by decide, by decide⟩
    · exact ⟨_, rfl, by decide, by decide⟩
    · exact ⟨_, rfl, by omega, by omega⟩
    · exact ⟨_, rfl, by decide, by decide⟩
  have fg := figs_facts (figs_text w1 w2)
  repeat walk_at "e"
  refine (name_gen D2 (by omega)).to ?_
  rintro _ st3 ⟨a, rfl, ha, D3, F3⟩
  have na := nm_facts ha
  repeat walk_at "e"
  refine lk_add_str (le_line (by rw [dot1]; omega)) ?_
  repeat walk_at "e"
  refine glk_some (d := .str (toString w)) (st := st3) (if_pos ?_) ?_
  · have := log2_small (i := w) (by omega) (by omega); omega
  refine lk_add_str (le_line (by rw [len_app, dot1]; omega)) ?_
  repeat walk_at "e"
  refine lk_add_str (le_line (by rw [len_app, len_app, dot1]; omega)) ?_
  refine (name_gen D3 (by omega)).to ?_
  rintro _ st4 ⟨b, rfl, hb, D4, F4⟩
  have nb := nm_facts hb
  refine lk_add_str (le_line (by rw [len_app, len_app, len_app, dot1]; omega)) ?_
  refine ⟨_, rfl, far_good ha hb w1 w2, ?_, ?_, D4.more (by omega), ((F1.trans F2).trans F3).trans F4⟩
  · rw [len_app, len_app, len_app, len_app, dot1]; omega
  · have hd : asS (Str.ofString ".") := asS_lit (by decide +kernel)
    exact (((asS.app na.2.2 hd).app fg.2.2).app hd).app nb.2.2
theorem called_gen {st : Sto} {n m : Nat} {t : Int} (D0 : Dk st n m t) (ht : t ≤ 10 ^ 17) {k : Nat} {E : ErP} :
    Ok (run (k + 4) 12 [.cell n] st) (fun d st' => ∃ x, d = .str x ∧ calD (.str x) = true ∧ x.length ≤ 60 ∧ asS x ∧ Dk st' n m (t + 30) ∧ Fr n m st st') E := by
  refine ok_fn (en := [some (.cell n)]) rfl ?_
  unfold b12
  repeat walk_at "e"
  refine (draw_ok D0 (by omega) (by decide) (by decide)).to ?_
  rintro _ st1 ⟨i, rfl, h0, h1, D1, F1⟩
  repeat walk_at "e"
  refine Cnd.of (fun c => ?_) (fun c => ?_)
  · repeat walk_at "e"
    refine (far_gen D1 (by omega)).to ?_
    rintro _ st2 ⟨x, rfl, hx, hl, hs, D2, F2⟩
    exact ⟨x, rfl, by show (isNm x || isFarS x) = true; rw [hx]; simp, hl, hs, D2.more (by omega), F1.trans F2⟩
  · repeat walk_at "e"
    refine (name_gen D1 (by omega)).to ?_
    rintro _ st2 ⟨x, rfl, hx, D2, F2⟩
    have := nm_facts hx
    exact ⟨x, rfl, by show (isNm x || isFarS x) = true; rw [hx]; rfl, by omega, this.2.2, D2.more (by omega), F1.trans F2⟩
/-- a good term: of at most so many spots, so deep -/
structure Gt (c q : Nat) (d : D) : Prop where
  b : Bx (1500 * c) (10 ^ 39) (2 * q) d
  t : ∀ f, dp d ≤ f → isT f d = true
theorem wtL2 (a b : D) : wtL [a, b] = wt a + 4 + (wt b + 4) := by simp only [wtL]
theorem litB {s : String} {M N : Nat} (h : ((Str.ofString s).cps.toList.all fun c => decide (c < 128)) = true) (hl : (Str.ofString s).length ≤ 10) : Bx 108 M N (.str (Str.ofString s)) := Bx.str (asS_lit h) (by omega)
theorem leaf_gen {st : Sto} {n m : Nat} {t : Int} (D0 : Dk st n m t) (ht : t ≤ 10 ^ 18) {k : Nat} {E : ErP} :
    Ok (run (k + 3) 13 [.cell n] st) (fun d st' => Gt 1 1 d ∧ Dk st' n m (t + 20) ∧ Fr n m st st') E := by
  refine ok_fn (en := [some (.cell n), none, none]) rfl ?_
  unfold b13
  repeat walk_at "e"
  refine (draw_ok D0 (by omega) (by decide) (by decide)).to ?_
  rintro _ st1 ⟨i, rfl, i0, i1, D1, F1⟩
  repeat walk_at "e"
  refine (draw_ok D1 (by omega) (by decide) (by decide)).to ?_
  rintro _ st2 ⟨a, rfl, a0, a1, D2, F2⟩
  repeat walk_at "e"
  refine (draw_ok D2 (by omega) (by decide) (by decide)).to ?_
  rintro _ st3 ⟨b, rfl, b0, b1, D3, F3⟩
  repeat walk_at "e"
  refine lk_pow (by decide) ?_
  refine ⟨le_line (by show 3 ≤ 16777216; decide), ?_⟩
  refine (draw_ok D3 (by omega) (by decide) (by decide)).to ?_
  rintro _ st4 ⟨j, rfl, j0, j1, D4, F4⟩
  repeat walk_at "e"
  refine lk_ix_lst j0 (by show j < 3; exact j1) fun d hd _ => ?_
  obtain ⟨w, rfl, w1, w2⟩ : ∃ w : Int, d = .int w ∧ 0 ≤ w ∧ w ≤ 10 ^ 39 := by
    have : d = .int a ∨ d = .int b ∨ d = .int (10 ^ (39 : Int).toNat) := by simpa using hd
    rcases this with rfl | rfl | rfl
    · exact ⟨_, rfl, by omega, by omega⟩
    · exact ⟨_, rfl, by omega, by omega⟩
    · exact ⟨_, rfl, by decide, by decide⟩
  repeat walk_at "e"
  refine ⟨le_line (by show 2 ≤ 16777216; decide), ?_⟩
  repeat walk_at "e"
  refine (draw_ok D4 (by omega) (by decide) (by decide)).to ?_
  rintro _ st5 ⟨z, rfl, z0, z1, D5, F5⟩
  repeat walk_at "e"
  refine ⟨le_line (by show 2 ≤ 16777216; decide), ?_⟩
  repeat walk_at "e"
  refine (name_gen D5 (by omega)).to ?_
  rintro _ st6 ⟨x, rfl, hx, D6, F6⟩
  have nx := nm_facts hx
  repeat walk_at "e"
  refine ⟨le_line (by show 2 ≤ 16777216; decide), ?_⟩
  repeat walk_at "e"
  refine ⟨le_line (by show 3 ≤ 16777216; decide), ?_⟩
  repeat walk_at "e"
  refine lk_ix_lst i0 (by show i < 3; exact i1) fun d hd _ => ?_
  refine ⟨?_, D6.more (by omega), ((((F1.trans F2).trans F3).trans F4).trans F5).trans F6⟩
  have : d = .tup [.str "at", .int w] ∨ d = .tup [.str "world", .int z] ∨ d = .tup [.str "hole", .str x] := by simpa using hd
  have two : ∀ (s : String) (e : D), ((Str.ofString s).cps.toList.all fun c => decide (c < 128)) = true → (Str.ofString s).length ≤ 10 → Bx 500 (10 ^ 39) 0 e → Bx 1500 (10 ^ 39) 2 (.tup [.str (Str.ofString s), e]) := fun s e h1 h2 he => by
    refine Bx.tup (W := 500) (N := 0) (fun d hd => ?_) ?_ (by decide)
    · have : d = .str (Str.ofString s) ∨ d = e := by simpa using hd
      rcases this with rfl | rfl
      · exact (litB h1 h2).mono (by decide) (Nat.le_refl _) (Nat.le_refl _)
      · exact he
    · have q1 := (litB (M := 0) (N := 0) h1 h2).w
      have q2 := he.w
      rw [wtL2]; omega
  have dpt : ∀ (s : Str) (e : D) (f : Nat), dp (.tup [.str s, e]) ≤ f → ∃ g, f = g + 1 := fun s e f h => by rw [dp_tup] at h; exact ⟨f - 1, by omega⟩
  rcases this with rfl | rfl | rfl
  · refine ⟨two "at" _ (by decide +kernel) (by decide +kernel) (Bx.int (by omega) (by decide)), fun f hf => ?_⟩
    obtain ⟨g, rfl⟩ := dpt _ _ _ hf
    show (if wA (Str.ofString "at") = true then _ else _) = true
    rw [if_pos (by decide +kernel)]
    show (wholeD (.int w) && decide (0 ≤ w)) = true
    rw [decide_eq_true w1]; rfl
  · refine ⟨two "world" _ (by decide +kernel) (by decide +kernel) (Bx.int (by omega) (by decide)), fun f hf => ?_⟩
    obtain ⟨g, rfl⟩ := dpt _ _ _ hf
    show (if wA (Str.ofString "world") = true then _ else if wW (Str.ofString "world") = true then _ else _) = true
    rw [if_neg (by decide +kernel), if_pos (by decide +kernel)]
    show (wholeD (.int z) && (decide (0 ≤ z) && decide (z ≤ 9))) = true
    rw [decide_eq_true z0, decide_eq_true (by omega : z ≤ 9)]; rfl
  · refine ⟨two "hole" _ (by decide +kernel) (by decide +kernel) (Bx.str nx.2.2 (by omega)), fun f hf => ?_⟩
    obtain ⟨g, rfl⟩ := dpt _ _ _ hf
    rw [isT_w]
    have h := show One (Str.ofString "hole") false false false false false true by unfold One; decide +kernel
    obtain ⟨hA, hW, hT, hF, hS, hH⟩ := h
    rw [hA, hW, hT, hF, hS, hH]
    exact hx
end Lw

namespace Lw
open PySem PySem.Spec L2 Pd
local macro_rules | `(tactic| walk_at "d") => `(tactic| first
  | with_reducible refine sk_seq ?_ | with_reducible refine sk_set ?_ | with_reducible refine sk_ite ?_ | with_reducible refine sk_ret ?_ | with_reducible refine sk_nil ?_ | with_reducible refine sk_expr ?_
  | with_reducible refine sk_par ?_ | with_reducible refine sk_asg ?_ | with_reducible refine sk_setIx ?_ | with_reducible refine sk_star ?_ | with_reducible refine sk_for ?_ | with_reducible refine sk_retN ?_
  | with_reducible refine sk_break ?_ | with_reducible refine sk_cont ?_
  | ((with_reducible refine ok_var (d := ?d) ?h ?_); (case h => exact rfl)) | with_reducible refine ok_c ?_ | with_reducible refine ok_nil ?_ | with_reducible refine ok_cons ?_ | with_reducible refine ok_op ?_
  | with_reducible refine ok_opC ?_ | with_reducible refine ok_un ?_ | with_reducible refine ok_unC ?_ | with_reducible refine ok_not ?_ | with_reducible refine ok_and ?_ | with_reducible refine ok_or ?_
  | with_reducible refine ok_chain ?_ | with_reducible refine ok_ite ?_ | with_reducible refine ok_blt ?_ | with_reducible refine ok_call ?_ | with_reducible refine ok_oNone ?_ | with_reducible refine ok_sl ?_
  | with_reducible refine ok_dnew ?_ | with_reducible refine ok_dnewC ?_ | with_reducible refine ok_B ?_ | with_reducible refine ok_tAnd ?_ | with_reducible refine ok_tOr ?_ | with_reducible refine ok_tNot ?_
  | with_reducible refine ok_tYes ?_ | with_reducible refine ok_iAny ?_ | with_reducible refine ok_lc ?_ | with_reducible refine ok_lcC ?_
  | with_reducible refine blk_bl ?_
  | with_reducible refine Cnd.t ?_ | with_reducible refine Cnd.f ?_ | with_reducible refine Cnd.nt ?_ | with_reducible refine Cnd.nf ?_
  | with_reducible refine lk_add_int ?_ | with_reducible refine lk_sub_int ?_ | with_reducible refine lk_lt_int ?_ | with_reducible refine lk_le_int ?_ | with_reducible refine lk_gt_int ?_ | with_reducible refine lk_ge_int ?_
  | (with_reducible refine ok_tup ?_) | (with_reducible refine ok_lst ?_) | (with_reducible refine ok_lstC ?_)
  | (with_reducible refine ok_mt ?_) | (with_reducible refine ok_repl ?_)
  | (with_reducible refine ok_neg ?_) | (with_reducible refine ok_oSome ?_)
  | (with_reducible refine ok_iRng1 ?_) | (with_reducible refine ok_iRng2 ?_)
  | (with_reducible refine ⟨_, rfl, ?_⟩)
  | (refine ⟨by first | rfl | decide, ?_⟩))
local macro_rules | `(tactic| walk_at "e") => `(tactic| first
  | walk_at "d"
  | with_reducible refine lk_isi_str (by assumption) ?_ | with_reducible refine lk_isi_int (by assumption) ?_ | with_reducible refine lk_isi_bool (by assumption) ?_ | with_reducible refine lk_isi_tuple (by assumption) ?_
  | with_reducible refine lk_eq_str ?_ | with_reducible refine lk_ne_str ?_ | with_reducible refine lk_eq_int ?_ | with_reducible refine lk_ne_int ?_ | with_reducible refine lk_eq_nil ?_ | with_reducible refine lk_ne_nil ?_
  | with_reducible refine lk_eq_tnil ?_ | with_reducible refine lk_ne_tnil ?_ | with_reducible refine lk_in_strs rfl ?_ | with_reducible refine lk_nin_strs rfl ?_
  | ((with_reducible refine lk_ixt (a := ?a) ?h ?_); (case h => exact rfl)) | ((with_reducible refine lk_ixl (a := ?a) ?h ?_); (case h => exact rfl))
  | with_reducible refine glk_len_tup ?_ | with_reducible refine glk_len_lst ?_ | with_reducible refine glk_len_str (le_line (by omega)) ?_
  | with_reducible refine ⟨le_line (by (simp only [List.length_cons, List.length_nil]; omega)), ?_⟩)
def cost (e : Nat) : Int := 100 * 6 ^ e
theorem cost_succ (e : Nat) : cost (e + 1) = 6 * cost e := by unfold cost; rw [Int.pow_succ]; omega
theorem cost_pos : ∀ e : Nat, 100 ≤ cost e
  | 0 => by decide
  | e + 1 => by rw [cost_succ]; have := cost_pos e; omega
def F3 (n m l : Nat) (st st' : Sto) : Prop := ∀ j c, j ≠ n → j ≠ m → j ≠ l → st[j]? = some c → st'[j]? = some c
theorem f3of {n m l : Nat} {st st' : Sto} (h : Fr n m st st') : F3 n m l st st' := fun j c a b _ e => h j c a b e
theorem F3.trans {n m l : Nat} {st st1 st2 : Sto} (a : F3 n m l st st1) (b : F3 n m l st1 st2) : F3 n m l st st2 := fun j c h1 h2 h3 h => b j c h1 h2 h3 (a j c h1 h2 h3 h)
def sumC : List Nat → Nat
  | [] => 0
  | c :: r => c + sumC r
/-- terms, with their spots -/
def Gts (q : Nat) : List Nat → List D → Prop
  | [], [] => True
  | c :: cs, d :: ds => Gt c q d ∧ Gts q cs ds
  | _, _ => False
theorem Gts.snoc {q c : Nat} {d : D} (h : Gt c q d) : ∀ {cs : List Nat} {ds : List D}, Gts q cs ds → Gts q (cs ++ [c]) (ds ++ [d])
  | [], [], _ => ⟨h, trivial⟩
  | _ :: _, _ :: _, g => ⟨g.1, Gts.snoc h g.2⟩
  | [], _ :: _, g => g.elim
  | _ :: _, [], g => g.elim
theorem sumC_snoc (c : Nat) : ∀ cs : List Nat, sumC (cs ++ [c]) = sumC cs + c
  | [] => by simp [sumC]
  | a :: cs => by simp [sumC, sumC_snoc c cs]; omega
theorem Gts.wt {q : Nat} : ∀ {cs : List Nat} {ds : List D}, Gts q cs ds → wtL ds ≤ 1500 * sumC cs + 4 * ds.length ∧ (∀ d ∈ ds, asc d = true ∧ mx d ≤ 10 ^ 39 ∧ dp d ≤ 2 * q ∧ ∀ f, dp d ≤ f → isT f d = true)
  | [], [], _ => ⟨by rw [wtL_nil]; omega, fun _ h => nomatch h⟩
  | c :: cs, d :: ds, g => by
    obtain ⟨h1, h2⟩ := Gts.wt g.2
    have := g.1.b.w
    refine ⟨?_, fun e he => ?_⟩
    · rw [wtL_cons, List.length_cons]; simp only [sumC]; omega
    · rcases List.mem_cons.mp he with rfl | he
      · exact ⟨g.1.b.a, g.1.b.m, g.1.b.n, g.1.t⟩
      · exact h2 e he
  | [], _ :: _, g => g.elim
  | _ :: _, [], g => g.elim
theorem Gts.len {q : Nat} : ∀ {cs : List Nat} {ds : List D}, Gts q cs ds → cs.length = ds.length
  | [], [], _ => rfl
  | _ :: _, _ :: _, g => by rw [List.length_cons, List.length_cons, Gts.len g.2]
  | [], _ :: _, g => g.elim
  | _ :: _, [], g => g.elim
theorem Bx.tup2 {M N W' N' : Nat} {ds : List D} (h : ∀ d ∈ ds, asc d = true ∧ mx d ≤ M ∧ dp d ≤ N) (hw : wtL ds + 8 ≤ W') (hn : N + 1 ≤ N') : Bx W' M N' (.tup ds) := by
  refine ⟨by simp only [asc]; exact ascL_of fun d hd => (h d hd).1, by simp only [Lw.wt]; exact hw, by simp only [mx]; exact mxL_le fun d hd => (h d hd).2.1, ?_⟩
  rw [dp_tup]
  have := dpL_le fun d hd => (h d hd).2.2
  omega
theorem arT_of {q f : Nat} {cs : List Nat} {ds : List D} (g : Gts q cs ds) (hf : dp (.tup ds) ≤ f + 1) : arT (isT f) (.tup ds) = true := by
  show ds.all (isT f) = true
  refine List.all_eq_true.mpr fun d hd => (g.wt.2 d hd).2.2.2 f ?_
  have := dp_item hd
  omega
theorem term_gen : ∀ (e : Nat) {st : Sto} {n m l : Nat} {t q : Int} {k : Nat} {E : ErP}, e ≤ 11 → e + 5 ≤ k → Dk st n m t → t + cost e ≤ 10 ^ 17 → st[l]? = some (.lst [.int q]) → l ≠ n → l ≠ m → 0 ≤ q → q ≤ 80 →
    Ok (run k 14 [.cell n, .int (e : Nat), .cell l] st) (fun d st' => ∃ (c : Nat) (q' : Int), Gt c (e + 1) d ∧ 0 ≤ q' ∧ (c : Int) ≤ 1 + q - q' ∧ q' ≤ q ∧ st'[l]? = some (.lst [.int q']) ∧ Dk st' n m (t + cost e) ∧ F3 n m l st st') E := by
  intro e
  induction e with
  | zero =>
    intro st n m l t q k E _ hk D0 ht hl ln lm q0 q1
    obtain ⟨k, rfl⟩ : ∃ j, k = j + 4 := ⟨k - 4, by omega⟩
    have hc := cost_pos 0
    refine ok_fn (en := [some (.cell n), some (.int ((0 : Nat) : Int)), some (.cell l), none, none, none, none, none]) rfl ?_
    unfold b14
    repeat walk_at "e"
    refine (draw_ok D0 (by omega) (by decide) (by decide)).to ?_
    rintro _ st1 ⟨w, rfl, w0, w1, D1, F1⟩
    repeat walk_at "e"
    refine (draw_ok D1 (by omega) (by decide) (by decide)).to ?_
    rintro _ st2 ⟨v, rfl, v0, v1, D2, F2⟩
    repeat walk_at "e"
    refine Cnd.yes rfl ?_
    repeat walk_at "e"
    refine (leaf_gen D2 (by omega)).to ?_
    rintro d st3 ⟨g, D3, F3'⟩
    have F := (F1.trans F2).trans F3'
    refine ⟨1, q, g, q0, by omega, Int.le_refl _, F l _ ln lm hl, D3.more (by omega), (f3of F)⟩
  | succ e ih =>
    intro st n m l t q k E he hk D0 ht hl ln lm q0 q1
    obtain ⟨k, rfl⟩ : ∃ j, k = j + 5 := ⟨k - 5, by omega⟩
    have hc := cost_pos e
    have hcs := cost_succ e
    refine ok_fn (en := [some (.cell n), some (.int ((e + 1 : Nat) : Int)), some (.cell l), none, none, none, none, none]) rfl ?_
    unfold b14
    repeat walk_at "e"
    refine (draw_ok D0 (by omega) (by decide) (by decide)).to ?_
    rintro _ st1 ⟨w, rfl, w0, w1, D1, F1⟩
    repeat walk_at "e"
    refine (draw_ok D1 (by omega) (by decide) (by decide)).to ?_
    rintro _ st2 ⟨v, rfl, v0, v1, D2, F2⟩
    have F12 := F1.trans F2
    have hl2 := F12 l _ ln lm hl
    repeat walk_at "e"
    refine Cnd.no (by rw [beq_eq_false_iff_ne]; omega) ?_
    have leaf : ∀ {P : D → Sto → Prop}, (∀ d st', (∃ (c : Nat) (q' : Int), Gt c (e + 1 + 1) d ∧ 0 ≤ q' ∧ (c : Int) ≤ 1 + q - q' ∧ q' ≤ q ∧ st'[l]? = some (.lst [.int q']) ∧ Dk st' n m (t + cost (e + 1)) ∧ F3 n m l st st') → P d st') → Ok (run (k + 4) 13 [.cell n] st2) P E := fun hP => by
      refine (leaf_gen D2 (by omega)).to ?_
      rintro d st3 ⟨g, D3, F3'⟩
      have F := F12.trans F3'
      exact hP d st3 ⟨1, q, ⟨g.b.mono (Nat.le_refl _) (Nat.le_refl _) (by omega), g.t⟩, q0, by omega, Int.le_refl _, F l _ ln lm hl, D3.more (by omega), (f3of F)⟩
    repeat walk_at "e"
    refine Cnd.of (fun c1 => ?_) (fun c1 => ?_)
    · repeat walk_at "e"
      exact leaf fun d st' h => h
    have c1 : ¬ w < 2 := of_decide_eq_false c1
    repeat walk_at "e"
    refine lk_some (ix_cell hl2 (i := 0) rfl) ?_
    repeat walk_at "e"
    refine Cnd.of (fun c2 => ?_) (fun c2 => ?_)
    · repeat walk_at "e"
      exact leaf fun d st' h => h
    have c2 : ¬ q < 2 := of_decide_eq_false c2
    refine sk_nil ?_
    refine sk_cut (fun en st' => st' = st2 ∧ ∃ a : Int, 0 ≤ a ∧ a ≤ q ∧ a ≤ 4 ∧ (w < 6 → a = 2) ∧ en = [some (.cell n), some (.int ((e + 1 : Nat) : Int)), some (.cell l), some (.int a), none, some (.int w), some (.int v), none]) ?_ ?_
    · repeat walk_at "e"
      refine Cnd.of (fun c3 => ?_) (fun c3 => ?_)
      · repeat walk_at "e"
        exact ⟨2, by decide, by omega, by decide, fun _ => rfl, rfl⟩
      · have c3 : ¬ w < 6 := of_decide_eq_false c3
        repeat walk_at "e"
        refine lk_some (ix_cell hl2 (i := 0) rfl) ?_
        repeat walk_at "e"
        refine ⟨_, ?_, ?_, ?_, fun h => absurd h c3, rfl⟩
        · split <;> omega
        · split <;> omega
        · split <;> omega
    rintro _ _ ⟨rfl, a, a0, aq, a4, aw, rfl⟩
    repeat walk_at "e"
    refine lk_some (ix_cell hl2 (i := 0) rfl) ?_
    repeat walk_at "e"
    refine ⟨l, 0, _, 0, rfl, rfl, hl2, rfl, ?_⟩
    have hl3 := get_set (c' := .lst ([D.int q].set 0 (.int (q - a)))) hl2
    have D3 := D2.set (.lst ([D.int q].set 0 (.int (q - a)))) ln lm
    have F3' : F3 n m l st (_root_.List.set _ l (.lst ([D.int q].set 0 (.int (q - a))))) := F3.trans (f3of F12) fun j c h1 h2 h3 h => get_ne h (Ne.symm h3)
    generalize List.set _ l (Cel.lst ([D.int q].set 0 (.int (q - a)))) = st3 at hl3 D3 F3'
    have hl3 : st3[l]? = some (.lst [.int (q - a)]) := hl3
    repeat walk_at "e"
    refine ⟨by omega, by omega, ?_⟩
    refine ok_lcLoop (I := fun acc rest st' => ∃ (cs : List Nat) (q' : Int), Gts (e + 1) cs acc ∧ acc.length + rest.length = a.toNat ∧ 0 ≤ q' ∧ q' ≤ q - a ∧ (sumC cs : Int) ≤ acc.length + (q - a) - q' ∧ st'[l]? = some (.lst [.int q']) ∧ Dk st' n m (t + 1 + 1 + acc.length * cost e) ∧ F3 n m l st st')
      (fun acc st' h => ?_) (fun d ds acc st' h => ?_) _ _ _ ⟨[], q - a, trivial, by rw [rng_len]; simp, by omega, Int.le_refl _, by simp [sumC], hl3, D3.more (by simp), F3'⟩
    · obtain ⟨cs, q', g, hlen, h0, h1, h2, h3, D4, F4⟩ := h
      rw [List.length_nil, Nat.add_zero] at hlen
      have hac : (acc.length : Int) = a := by omega
      rw [hac] at h2 D4
      have h16 : a * cost e ≤ 4 * cost e := Int.mul_le_mul_of_nonneg_right a4 (by omega)
      have gw := g.wt
      repeat walk_at "e"
      refine glk_some (d := .tup acc) (st := st') rfl ?_
      repeat walk_at "e"
      refine Cnd.of (fun c3 => ?_) (fun c3 => ?_)
      · have c3 : w < 6 := of_decide_eq_true c3
        obtain rfl := aw c3
        have ha : ∃ u v, acc = [u, v] := by
          match acc, hac with
          | [u, v], _ => exact ⟨u, v, rfl⟩
          | [], h => cases h
          | [_], h => cases h
          | _ :: _ :: _ :: _, h => simp only [List.length_cons] at h; omega
        obtain ⟨u, v', rfl⟩ := ha
        repeat walk_at "e"
        try (refine ⟨le_line (by show 4 ≤ 16777216; decide), ?_⟩)
        repeat walk_at "e"
        repeat walk_at "e"
        refine lk_ix_lst (by omega) (by show w - 2 < 4; omega) fun wd hwd _ => ?_
        repeat walk_at "e"
        try (refine ⟨le_line (by show 2 ≤ 16777216; decide), ?_⟩)
        repeat walk_at "e"
        refine (draw_ok D4 (by omega) (by decide) (by decide)).to ?_
        rintro _ st5 ⟨b, rfl, b0, b1, D5, F5⟩
        repeat walk_at "e"
        refine lk_ix_lst b0 (by show b < 2; exact b1) fun mk hmk _ => ?_
        repeat walk_at "e"
        try (refine ⟨le_line (by show 2 ≤ 16777216; decide), ?_⟩)
        repeat walk_at "e"
        repeat walk_at "e"
        refine lk_add_tup (le_line (by show 4 ≤ 16777216; decide)) ?_
        refine ⟨1 + sumC cs, q', ?_, h0, by push_cast; omega, by omega, F5 l _ ln lm h3, D5.more (by omega), F4.trans (f3of F5)⟩
        have hmk' : mk = .str "run" ∨ mk = .str "gone" := by simpa using hmk
        have hwd' : wd = .str "to" ∨ wd = .str "fun" ∨ wd = .str "give" := by
          have : wd = .str "to" ∨ wd = .str "fun" ∨ wd = .str "give" := by simpa using hwd
          exact this
        obtain ⟨wd, rfl, e1, e2, e3⟩ : ∃ s : Str, wd = .str s ∧ One s false false true false false false ∧ asS s ∧ s.length ≤ 10 := by
          rcases hwd' with rfl | rfl | rfl
          · exact ⟨_, rfl, by unfold One; decide +kernel, asS_lit (by decide +kernel), by decide +kernel⟩
          · exact ⟨_, rfl, by unfold One; decide +kernel, asS_lit (by decide +kernel), by decide +kernel⟩
          · exact ⟨_, rfl, by unfold One; decide +kernel, asS_lit (by decide +kernel), by decide +kernel⟩
        obtain ⟨mk, rfl, f1, f2, f3⟩ : ∃ s : Str, mk = .str s ∧ mkD (.str s) = true ∧ asS s ∧ s.length ≤ 10 := by
          rcases hmk' with rfl | rfl
          · exact ⟨_, rfl, by decide +kernel, asS_lit (by decide +kernel), by decide +kernel⟩
          · exact ⟨_, rfl, by decide +kernel, asS_lit (by decide +kernel), by decide +kernel⟩
        have gu := gw.2 u (.head _)
        have gv := gw.2 v' (.tail _ (.head _))
        refine ⟨Bx.tup2 (N := 2 * (e + 1)) (fun d hd => ?_) ?_ (by omega), fun f hf => ?_⟩
        · rcases List.mem_cons.mp hd with rfl | hd
          · exact ⟨asc_str e2, by simp only [mx]; omega, Nat.zero_le _⟩
          rcases List.mem_cons.mp hd with rfl | hd
          · exact ⟨asc_str f2, by simp only [mx]; omega, Nat.zero_le _⟩
          · obtain ⟨x1, x2, x3, _⟩ := gw.2 d hd
            exact ⟨x1, x2, x3⟩
        · have := gw.1
          show wtL (.str wd :: .str mk :: [u, v']) + 8 ≤ _
          rw [wtL_cons, wtL_cons]
          simp only [Lw.wt, List.length_cons, List.length_nil] at this ⊢
          omega
        · have du := dp_item (ds := [D.str wd, .str mk, u, v']) (e := u) (by simp)
          have dv := dp_item (ds := [D.str wd, .str mk, u, v']) (e := v') (by simp)
          obtain ⟨f, rfl⟩ : ∃ g, f = g + 1 := ⟨f - 1, by
            have : dp (.tup [D.str wd, .str mk, u, v']) ≤ f := hf
            omega⟩
          have hf : dp (.tup [D.str wd, .str mk, u, v']) ≤ f + 1 := hf
          obtain ⟨hA, hW, hT, hF, hS, hH⟩ := e1
          show isT (f + 1) (.tup (.str wd :: [.str mk, u, v'])) = true
          rw [isT_w, hA, hW, hT]
          show (mkD (.str mk) && (isT f u && isT f v')) = true
          rw [f1, gu.2.2.2 f (by omega), gv.2.2.2 f (by omega)]
          rfl
      · have c3 : ¬ w < 6 := of_decide_eq_false c3
        have hlen4 : acc.length ≤ 4 := by omega
        repeat walk_at "e"
        refine Cnd.of (fun c4 => ?_) (fun c4 => ?_)
        · repeat walk_at "e"
          refine (called_gen D4 (by omega)).to ?_
          rintro _ st5 ⟨x, rfl, hx, xl, xs, D5, F5⟩
          repeat walk_at "e"
          refine (name_gen D5 (by omega)).to ?_
          rintro _ st6 ⟨y, rfl, hy, D6, F6⟩
          have ny := nm_facts hy
          repeat walk_at "e"
          refine ⟨1 + sumC cs, q', ?_, h0, by push_cast; omega, by omega, (F5.trans F6) l _ ln lm h3, D6.more (by omega), F4.trans (f3of (F5.trans F6))⟩
          have gp : Bx (1500 * sumC cs + 4 * acc.length + 8) (10 ^ 39) (2 * (e + 1) + 1) (.tup acc) := Bx.tup2 (fun d hd => let ⟨x1, x2, x3, _⟩ := gw.2 d hd; ⟨x1, x2, x3⟩) (by omega) (Nat.le_refl _)
          refine ⟨Bx.tup2 (N := 2 * (e + 1) + 1) (fun d hd => ?_) ?_ (by omega), fun f hf => ?_⟩
          · rcases List.mem_cons.mp hd with rfl | hd
            · exact ⟨asc_str (asS_lit (by decide +kernel)), by simp only [mx]; omega, Nat.zero_le _⟩
            rcases List.mem_cons.mp hd with rfl | hd
            · exact ⟨asc_str xs, by simp only [mx]; omega, Nat.zero_le _⟩
            rcases List.mem_cons.mp hd with rfl | hd
            · exact ⟨asc_str ny.2.2, by simp only [mx]; omega, Nat.zero_le _⟩
            obtain rfl := List.mem_singleton.mp hd
            exact ⟨gp.a, gp.m, gp.n⟩
          · have := gp.w
            have hsl : (Str.ofString "shape").length = 5 := by decide +kernel
            simp only [wtL, Lw.wt] at this ⊢
            omega
          · have dpp := dp_item (ds := [D.str "shape", .str x, .str y, .tup acc]) (e := .tup acc) (by simp)
            obtain ⟨f, rfl⟩ : ∃ g, f = g + 1 := ⟨f - 1, by omega⟩
            have e1 : One (Str.ofString "shape") false false false false true false := by unfold One; decide +kernel
            obtain ⟨hA, hW, hT, hF, hS, hH⟩ := e1
            show isT (f + 1) (.tup (.str (Str.ofString "shape") :: [.str x, .str y, .tup acc])) = true
            rw [isT_w, hA, hW, hT, hF, hS]
            show (calD (.str x) && (isNm y && arT (isT f) (.tup acc))) = true
            rw [hx, hy, arT_of g (by omega)]
            rfl
        · have c4 : ¬ w = 8 := by simpa using c4
          repeat walk_at "e"
          refine lk_ix_lst (by omega) (by show w - 6 < 2; omega) fun wd hwd _ => ?_
          repeat walk_at "e"
          refine (called_gen D4 (by omega)).to ?_
          rintro _ st5 ⟨x, rfl, hx, xl, xs, D5, F5⟩
          repeat walk_at "e"
          refine ⟨1 + sumC cs, q', ?_, h0, by push_cast; omega, by omega, F5 l _ ln lm h3, D5.more (by omega), F4.trans (f3of F5)⟩
          have hwd' : wd = .str "family" ∨ wd = .str "call" := by simpa using hwd
          obtain ⟨wd, rfl, e1, e2, e3⟩ : ∃ s : Str, wd = .str s ∧ One s false false false true false false ∧ asS s ∧ s.length ≤ 10 := by
            rcases hwd' with rfl | rfl
            · exact ⟨_, rfl, by unfold One; decide +kernel, asS_lit (by decide +kernel), by decide +kernel⟩
            · exact ⟨_, rfl, by unfold One; decide +kernel, asS_lit (by decide +kernel), by decide +kernel⟩
          have gp : Bx (1500 * sumC cs + 4 * acc.length + 8) (10 ^ 39) (2 * (e + 1) + 1) (.tup acc) := Bx.tup2 (fun d hd => let ⟨x1, x2, x3, _⟩ := gw.2 d hd; ⟨x1, x2, x3⟩) (by omega) (Nat.le_refl _)
          refine ⟨Bx.tup2 (N := 2 * (e + 1) + 1) (fun d hd => ?_) ?_ (by omega), fun f hf => ?_⟩
          · rcases List.mem_cons.mp hd with rfl | hd
            · exact ⟨asc_str e2, by simp only [mx]; omega, Nat.zero_le _⟩
            rcases List.mem_cons.mp hd with rfl | hd
            · exact ⟨asc_str xs, by simp only [mx]; omega, Nat.zero_le _⟩
            obtain rfl := List.mem_singleton.mp hd
            exact ⟨gp.a, gp.m, gp.n⟩
          · have := gp.w
            simp only [wtL, Lw.wt] at this ⊢
            omega
          · have dpp := dp_item (ds := [D.str wd, .str x, .tup acc]) (e := .tup acc) (by simp)
            obtain ⟨f, rfl⟩ : ∃ g, f = g + 1 := ⟨f - 1, by omega⟩
            obtain ⟨hA, hW, hT, hF, hS, hH⟩ := e1
            show isT (f + 1) (.tup (.str wd :: [.str x, .tup acc])) = true
            rw [isT_w, hA, hW, hT, hF]
            show (calD (.str x) && arT (isT f) (.tup acc)) = true
            rw [hx, arT_of g (by omega)]
            rfl
    · obtain ⟨cs, q', g, hlen, h0, h1, h2, h3, D4, F4⟩ := h
      rw [List.length_cons] at hlen
      have h16 : (acc.length : Int) * cost e ≤ 3 * cost e := Int.mul_le_mul_of_nonneg_right (by omega) (by omega)
      refine lk_some rfl ?_
      repeat walk_at "e"
      have ee : ((e + 1 : Nat) : Int) - 1 = (e : Nat) := by omega
      rw [ee]
      refine (ih (by omega) (by omega) D4 (by omega) h3 ln lm h0 (by omega)).to ?_
      rintro d' st5 ⟨c, q2, gt, z0, z1, z2, z3, D5, F5⟩
      refine ⟨Nat.lt_of_lt_of_le (by omega) (le_line (n := 10) (by decide)), cs ++ [c], q2, Gts.snoc gt g, by rw [List.length_append, List.length_singleton]; omega, z0, by omega, ?_, z3, D5.more ?_, F4.trans F5⟩
      · rw [sumC_snoc, List.length_append, List.length_singleton]; push_cast; omega
      · rw [List.length_append, List.length_singleton]
        have : ((acc.length + 1 : Nat) : Int) * cost e = acc.length * cost e + cost e := by push_cast; rw [Int.add_mul]; omega
        omega
end Lw

namespace Lw
open PySem PySem.Spec L2 Pd
local macro_rules | `(tactic| walk_at "d") => `(tactic| first
  | with_reducible refine sk_seq ?_ | with_reducible refine sk_set ?_ | with_reducible refine sk_ite ?_ | with_reducible refine sk_ret ?_ | with_reducible refine sk_nil ?_ | with_reducible refine sk_expr ?_
  | with_reducible refine sk_par ?_ | with_reducible refine sk_asg ?_ | with_reducible refine sk_setIx ?_ | with_reducible refine sk_star ?_ | with_reducible refine sk_for ?_ | with_reducible refine sk_retN ?_
  | with_reducible refine sk_break ?_ | with_reducible refine sk_cont ?_
  | ((with_reducible refine ok_var (d := ?d) ?h ?_); (case h => exact rfl)) | with_reducible refine ok_c ?_ | with_reducible refine ok_nil ?_ | with_reducible refine ok_cons ?_ | with_reducible refine ok_op ?_
  | with_reducible refine ok_opC ?_ | with_reducible refine ok_un ?_ | with_reducible refine ok_unC ?_ | with_reducible refine ok_not ?_ | with_reducible refine ok_and ?_ | with_reducible refine ok_or ?_
  | with_reducible refine ok_chain ?_ | with_reducible refine ok_ite ?_ | with_reducible refine ok_blt ?_ | with_reducible refine ok_call ?_ | with_reducible refine ok_oNone ?_ | with_reducible refine ok_sl ?_
  | with_reducible refine ok_dnew ?_ | with_reducible refine ok_dnewC ?_ | with_reducible refine ok_B ?_ | with_reducible refine ok_tAnd ?_ | with_reducible refine ok_tOr ?_ | with_reducible refine ok_tNot ?_
  | with_reducible refine ok_tYes ?_ | with_reducible refine ok_iAny ?_ | with_reducible refine ok_lc ?_ | with_reducible refine ok_lcC ?_
  | with_reducible refine blk_bl ?_
  | with_reducible refine Cnd.t ?_ | with_reducible refine Cnd.f ?_ | with_reducible refine Cnd.nt ?_ | with_reducible refine Cnd.nf ?_
  | with_reducible refine lk_add_int ?_ | with_reducible refine lk_sub_int ?_ | with_reducible refine lk_lt_int ?_ | with_reducible refine lk_le_int ?_ | with_reducible refine lk_gt_int ?_ | with_reducible refine lk_ge_int ?_
  | (with_reducible refine ok_tup ?_) | (with_reducible refine ok_lst ?_) | (with_reducible refine ok_lstC ?_)
  | (with_reducible refine ok_mt ?_) | (with_reducible refine ok_repl ?_)
  | (with_reducible refine ok_neg ?_) | (with_reducible refine ok_oSome ?_)
  | (with_reducible refine ok_iRng1 ?_) | (with_reducible refine ok_iRng2 ?_)
  | (with_reducible refine ⟨_, rfl, ?_⟩)
  | (refine ⟨by first | rfl | decide, ?_⟩))
local macro_rules | `(tactic| walk_at "e") => `(tactic| first
  | walk_at "d"
  | with_reducible refine lk_isi_str (by assumption) ?_ | with_reducible refine lk_isi_int (by assumption) ?_ | with_reducible refine lk_isi_bool (by assumption) ?_ | with_reducible refine lk_isi_tuple (by assumption) ?_
  | with_reducible refine lk_eq_str ?_ | with_reducible refine lk_ne_str ?_ | with_reducible refine lk_eq_int ?_ | with_reducible refine lk_ne_int ?_ | with_reducible refine lk_eq_nil ?_ | with_reducible refine lk_ne_nil ?_
  | with_reducible refine lk_eq_tnil ?_ | with_reducible refine lk_ne_tnil ?_ | with_reducible refine lk_in_strs rfl ?_ | with_reducible refine lk_nin_strs rfl ?_
  | ((with_reducible refine lk_ixt (a := ?a) ?h ?_); (case h => exact rfl)) | ((with_reducible refine lk_ixl (a := ?a) ?h ?_); (case h => exact rfl))
  | with_reducible refine glk_len_tup ?_ | with_reducible refine glk_len_lst ?_ | with_reducible refine glk_len_str (le_line (by omega)) ?_
  | with_reducible refine ⟨le_line (by (simp only [List.length_cons, List.length_nil]; omega)), ?_⟩)
theorem up_ascii : (List.range 128).all (fun c => match Unicode.upperOf c with | [d] => decide (d < 128) | _ => false) = true := by decide +kernel
theorem mapIdx_const {α β : Type} (f : α → β) : ∀ (l : List α), l.mapIdx (fun _ a => f a) = l.map f
  | [] => rfl
  | a :: l => by rw [List.mapIdx_cons, mapIdx_const f l]; rfl
theorem upper_cs (x : Str) : cs (Txt.upper x) = ((cs x).map Unicode.upperOf).flatten := by
  show ((x.cps.mapIdx fun _ c => (Unicode.upperOf c).toArray).flatten).toList = _
  rw [Array.toList_flatten, Array.toList_mapIdx, mapIdx_const, List.map_map]
  rfl
theorem upper_facts {x : Str} (h : asS x) : asS (Txt.upper x) ∧ (Txt.upper x).length = x.length := by
  have key : ∀ l : List Nat, (∀ c ∈ l, c < 128) → (∀ c ∈ (l.map Unicode.upperOf).flatten, c < 128) ∧ ((l.map Unicode.upperOf).flatten).length = l.length := by
    intro l
    induction l with
    | nil => intro _; exact ⟨(fun _ z => nomatch z), rfl⟩
    | cons a l ih =>
      intro hl
      obtain ⟨h1, h2⟩ := ih fun c hc => hl c (.tail _ hc)
      have q := List.all_eq_true.mp up_ascii a (List.mem_range.mpr (hl a (.head _)))
      rw [List.map_cons, List.flatten_cons]
      cases e : Unicode.upperOf a with
      | nil => rw [e] at q; cases q
      | cons d r =>
        cases r with
        | nil =>
          rw [e] at q
          refine ⟨fun c hc => ?_, by rw [List.length_append, h2]; simp; omega⟩
          rcases List.mem_append.mp hc with z | z
          · rw [List.mem_singleton.mp z]; exact of_decide_eq_true q
          · exact h1 c z
        | cons _ _ => rw [e] at q; cases q
  obtain ⟨h1, h2⟩ := key (cs x) h
  rw [← upper_cs] at h1 h2
  refine ⟨h1, ?_⟩
  rw [← cs_len, h2, cs_len]
theorem cut_facts {x : Str} (h : asS x) (lo hi : Option Int) : asS (cutS x lo hi) ∧ (cutS x lo hi).length ≤ x.length := by
  refine ⟨fun c hc => h c ?_, cutS_length x lo hi⟩
  unfold cutS at hc
  exact List.mem_of_mem_drop (List.mem_of_mem_take hc)
theorem text_facts {i : Int} (h : i.natAbs ≤ 10 ^ 40) : asS (Str.ofString (toString i)) ∧ (Str.ofString (toString i)).length ≤ 42 := by
  refine ⟨fun c hc => ?_, ?_⟩
  · by_cases hc2 : c < 128
    · exact hc2
    · exact absurd hc (PyProof.Rows.int_text_free' c (by omega) i)
  · have := int_text_length_le10 (a := i) (k := 41) (by decide) (by
      have : (10 : Nat) ^ 40 < 10 ^ 41 := by decide +kernel
      omega)
    have e : (Str.ofString (toString i)).length = (toString i).length := by
      rw [← cs_len]
      show ((Str.ofString (toString i)).cps.toList).length = _
      rw [PyProof.Rows.signs_ofString, List.length_map, String.length_toList]
    omega
theorem wtL_cut (ds : List D) (k : Nat) : wtL (ds.take k) + wtL (ds.drop k) = wtL ds := by rw [← wtL_app, List.take_append_drop]
theorem wtL_rev : ∀ ds : List D, wtL ds.reverse = wtL ds
  | [] => rfl
  | d :: ds => by rw [List.reverse_cons, wtL_app, wtL_rev ds, wtL_cons, wtL_cons, wtL_nil]; omega
theorem wtL_cutD (ds : List D) (lo hi : Option Int) : wtL (cutD ds lo hi) ≤ wtL ds := by
  unfold cutD
  have h1 := wtL_cut (ds.drop (HT.sIx ds.length 0 lo)) (HT.sIx ds.length ds.length hi - HT.sIx ds.length 0 lo)
  have h2 := wtL_cut ds (HT.sIx ds.length 0 lo)
  omega
section
variable {W M N : Nat}
theorem Bx.tup3 {W' N' : Nat} {ds es : List D} (h : Bx W M N (.tup ds)) (hs : ∀ e ∈ es, e ∈ ds) (hw : wtL es + 8 ≤ W') (hn : N ≤ N') : Bx W' M N' (.tup es) := by
  have hn' := h.n
  rw [dp_tup] at hn'
  refine Bx.tup2 (N := N - 1) (fun d hd => ?_) hw (by omega)
  have q := h.item (hs d hd)
  have := dp_item (hs d hd)
  have := h.n
  exact ⟨q.a, q.m, by omega⟩
theorem Bx.one {W' N' : Nat} {d : D} (h : Bx W M N d) (hw : W + 12 ≤ W') (hn : N + 1 ≤ N') : Bx W' M N' (.tup [d]) := by
  refine Bx.tup2 (N := N) (fun e he => ?_) ?_ hn
  · obtain rfl := List.mem_singleton.mp he; exact ⟨h.a, h.m, h.n⟩
  · have := h.w; simp only [wtL]; omega
theorem Bx.oneL {W' N' : Nat} {d : D} (h : Bx W M N d) (hw : W + 12 ≤ W') (hn : N + 1 ≤ N') : Bx W' M N' (.lst [d]) := by
  refine Bx.lst (W := W) (N := N) (fun e he => ?_) ?_ hn
  · obtain rfl := List.mem_singleton.mp he; exact h
  · have := h.w; simp only [wtL]; omega
theorem Bx.lit {s : String} (h : ((Str.ofString s).cps.toList.all fun c => decide (c < 128)) = true) (hl : (Str.ofString s).length ≤ 20) (hW : 208 ≤ W) : Bx W M N (.str (Str.ofString s)) := Bx.str (asS_lit h) (by omega)
theorem wt_tup (ds : List D) : Lw.wt (.tup ds) = wtL ds + 8 := by simp only [Lw.wt]
theorem wt_str (x : Str) : Lw.wt (.str x) = 10 * x.length + 8 := by simp only [Lw.wt]
theorem asc_asS {x : Str} (h : asc (.str x) = true) : asS x := fun c hc => by simp only [asc] at h; exact of_decide_eq_true (List.all_eq_true.mp h c hc)
theorem ok_disp1 {i : Int} {j : Nat} {d : D} {en : En} {st : Sto} {P : D → Sto → Prop} {E : ErP} (e : en[j]? = some (some d)) (h : P (.dct [.inl i] [d]) (st ++ [.dead])) : Ok (mDisp [(mC (.int i), mVar j)] en st) P E := by
  refine ok_of (a := .dct [.inl i] [d]) (st := st ++ [.dead]) ?_ h
  unfold mDisp mPairs
  show mb (mb (mC (.int i) en _) _) _ = _
  have e2 : mVar j en (st ++ [Cel.dct [] []]) = .ok d (st ++ [Cel.dct [] []]) := by unfold mVar; rw [e]
  simp only [mC, mb_ok, e2, mPairs]
  have e3 : (st ++ [Cel.dct [] []])[st.length]? = some (Cel.dct [] []) := get_new
  have e4 : keysD [D.int i] = some [.inl i] := rfl
  simp only [e4, e3]
  rw [if_pos ⟨rfl, rfl, rfl⟩]
  congr 1
  simp
end
/-- another thing, not much heavier -/
theorem odd_gen {W M N : Nat} {d : D} (b : Bx W M N d) (hW : W ≤ 270000) (hM : M ≤ 10 ^ 39 + 1000) {st : Sto} {n m : Nat} {t : Int} (D0 : Dk st n m t) (ht : t ≤ 10 ^ 19) {k : Nat} {E : ErP} :
    Ok (run (k + 2) 15 [.cell n, d] st) (fun r st' => Bx (2 * W + 3000) (M + 20) (N + 2) r ∧ Dk st' n m (t + 10) ∧ Fr n m st st') E := by
  have g : gd d = true := b.gd (by omega) (by omega)
  refine ok_fn (en := [some (.cell n), some d, none, none, none, none]) rfl ?_
  unfold b15
  repeat walk_at "e"
  refine (draw_ok D0 (by omega) (by decide) (by decide)).to ?_
  rintro _ st1 ⟨way, rfl, w0, w1, D1, F1⟩
  repeat walk_at "e"
  have hsome : ∀ r ∈ [D.non, .bl true, .bl false, .int 0, .int (-1), .str "", .str "at", .tup [], .lst [], .dct [] [], .tup [.str "at"], .tup [.str "at", .int 0], .lst [.str "at", .int 0], .str "run", .int 10], Bx (2 * W + 3000) (M + 20) (N + 2) r := by
    have lat : ∀ {W M N : Nat}, 208 ≤ W → Bx W M N (.str "at") := fun h => Bx.lit (by decide +kernel) (by decide +kernel) h
    have i0 : ∀ {W M N : Nat}, 500 ≤ W → Bx W M N (.int 0) := fun h => Bx.int (Nat.zero_le _) h
    have two : ∀ {W M N : Nat}, ∀ d ∈ [D.str "at", .int 0], Bx 500 M 0 d := fun {W M N} d hd => by
      rcases List.mem_cons.mp hd with rfl | hd
      · exact lat (by decide)
      · obtain rfl := List.mem_singleton.mp hd; exact i0 (by decide)
    have w2 : wtL [D.str "at", .int 0] ≤ 600 := by
      have : (Str.ofString "at").length = 2 := by decide +kernel
      simp only [wtL, Lw.wt]; omega
    intro r hr
    have : r = .non ∨ r = .bl true ∨ r = .bl false ∨ r = .int 0 ∨ r = .int (-1) ∨ r = .str "" ∨ r = .str "at" ∨ r = .tup [] ∨ r = .lst [] ∨ r = .dct [] [] ∨ r = .tup [.str "at"] ∨ r = .tup [.str "at", .int 0] ∨ r = .lst [.str "at", .int 0] ∨ r = .str "run" ∨ r = .int 10 := by simpa using hr
    rcases this with rfl | rfl | rfl | rfl | rfl | rfl | rfl | rfl | rfl | rfl | rfl | rfl | rfl | rfl | rfl
    · exact ⟨rfl, by simp only [Lw.wt]; omega, by simp only [mx]; omega, Nat.zero_le _⟩
    · exact ⟨rfl, by simp only [Lw.wt]; omega, by simp only [mx]; omega, Nat.zero_le _⟩
    · exact ⟨rfl, by simp only [Lw.wt]; omega, by simp only [mx]; omega, Nat.zero_le _⟩
    · exact i0 (by omega)
    · exact Bx.int (by show 1 ≤ _; omega) (by omega)
    · exact Bx.lit (by decide +kernel) (by decide +kernel) (by omega)
    · exact lat (by omega)
    · exact Bx.tup2 (N := 0) (fun _ h => nomatch h) (by rw [wtL_nil]; omega) (by omega)
    · exact Bx.lst (W := 0) (N := 0) (fun _ h => nomatch h) (by rw [wtL_nil]; omega) (by omega)
    · refine ⟨rfl, by simp only [Lw.wt, wtL, List.length_nil]; omega, by simp only [mx, mxL]; omega, ?_⟩
      show dp (.dct [] []) ≤ _
      have : dp (.dct [] []) = 1 := by simp [dp, py, pyL, PyData.depth, PyData.depthKv]
      omega
    · exact Bx.one (lat (W := 208) (N := 0) (by decide)) (by omega) (by omega)
    · exact (Bx.tup (W := 500) (N := 0) (two (W := 0) (N := 0)) (by omega) (by omega))
    · exact (Bx.lst (W := 500) (N := 0) (two (W := 0) (N := 0)) (by omega) (by omega))
    · exact Bx.lit (by decide +kernel) (by decide +kernel) (by omega)
    · exact Bx.int (by show 10 ≤ _; omega) (by omega)
  try (refine ⟨le_line (by show 15 ≤ 16777216; decide), ?_⟩)
  repeat walk_at "e"
  refine (draw_ok D1 (by omega) (by decide) (by decide)).to ?_
  rintro _ st2 ⟨c, rfl, c0, c1, D2, F2⟩
  repeat walk_at "e"
  refine Cnd.of (fun c2 => ?_) (fun c2 => ?_)
  · repeat walk_at "e"
    refine (draw_ok D2 (by omega) (by decide) (by decide)).to ?_
    rintro _ st3 ⟨j, rfl, j0, j1, D3, F3⟩
    repeat walk_at "e"
    refine lk_ix_lst j0 (by show j < 15; exact j1) fun r hr _ => ?_
    exact ⟨hsome r hr, D3.more (by omega), (F1.trans F2).trans F3⟩
  repeat walk_at "e"
  have F12 := F1.trans F2
  have hlen : way < ([D.non, .bl true, .bl false, .int 0, .int (-1), .str "", .str "at", .tup [], .lst [], .dct [] [], .tup [.str "at"], .tup [.str "at", .int 0], .lst [.str "at", .int 0], .str "run", .int 10] : List D).length := by show way < 15; omega
  generalize [D.non, .bl true, .bl false, .int 0, .int (-1), .str "", .str "at", .tup [], .lst [], .dct [] [], .tup [.str "at"], .tup [.str "at", .int 0], .lst [.str "at", .int 0], .str "run", .int 10] = SM at hsome hlen ⊢
  have fin : ∀ {ds : List D} {st3 : Sto}, ds.length = 9 → Dk st3 n m (t + 9) → Fr n m st2 st3 → (∀ r ∈ ds, Bx (2 * W + 3000) (M + 20) (N + 2) r) →
      Lk (ixD (.lst ds) (.int way) st3) fun r => Bx (2 * W + 3000) (M + 20) (N + 2) r ∧ Dk st3 n m (t + 10) ∧ Fr n m st st3 := fun h9 D3 F3 h =>
    lk_ix_lst w0 (by rw [h9]; exact w1) fun r hr _ => ⟨h r hr, D3.more (by omega), F12.trans F3⟩
  by_cases hs : isS d = true
  · cases d with
    | str x =>
      refine Cnd.yes rfl ?_
      have hx := asc_asS b.a
      have hw := b.w
      rw [wt_str] at hw
      have l1 : (Str.ofString "a").length = 1 := by decide +kernel
      have l2 : (Str.ofString ".1.a").length = 4 := by decide +kernel
      repeat walk_at "e"
      refine lk_add_str (le_line (by rw [l1]; omega)) ?_
      repeat walk_at "e"
      refine lk_some (a := D.str (cutS x none (some (-1)))) (by show (if small x.length = true then some (D.str (cutS x none (some (-1)))) else none) = _; exact if_pos (small_iff.mpr (le_line (by omega)))) ?_
      repeat walk_at "e"
      refine glk_some (d := .str (Txt.upper x)) (st := st2) (by show (if x.length ≤ 5592405 then some (D.str (Txt.upper x), st2) else none) = _; exact if_pos (by omega)) ?_
      repeat walk_at "e"
      refine lk_add_str (le_line (by rw [l2]; omega)) ?_
      repeat walk_at "e"
      refine fin rfl (D2.more (by omega)) (Fr.refl _ _ _) fun r hr => ?_
      have up := upper_facts hx
      have ct := cut_facts hx none (some (-1))
      have : r = .str (x ++ Str.ofString "a") ∨ r = .str (cutS x none (some (-1))) ∨ r = .str (Txt.upper x) ∨ r = .str (x ++ Str.ofString ".1.a") ∨ r = .str "a.01.b" ∨ r = .str "a.0.b" ∨ r = .lst [.str x] ∨ r = .tup [.str x] ∨ r = .str "a.1." := by simpa using hr
      rcases this with rfl | rfl | rfl | rfl | rfl | rfl | rfl | rfl | rfl
      · exact Bx.str (hx.app (asS_lit (by decide +kernel))) (by rw [len_app, l1]; omega)
      · exact Bx.str ct.1 (by have := ct.2; omega)
      · exact Bx.str up.1 (by rw [up.2]; omega)
      · exact Bx.str (hx.app (asS_lit (by decide +kernel))) (by rw [len_app, l2]; omega)
      · exact Bx.lit (by decide +kernel) (by decide +kernel) (by omega)
      · exact Bx.lit (by decide +kernel) (by decide +kernel) (by omega)
      · exact (Bx.oneL b (by omega) (Nat.le_refl _)).mono (Nat.le_refl _) (by omega) (by omega)
      · exact (Bx.one b (by omega) (Nat.le_refl _)).mono (Nat.le_refl _) (by omega) (by omega)
      · exact Bx.lit (by decide +kernel) (by decide +kernel) (by omega)
    | _ => cases hs
  rw [Bool.not_eq_true] at hs
  refine Cnd.no hs ?_
  repeat walk_at "e"
  by_cases hi : isI d = true
  · refine Cnd.yes hi ?_
    cases d with
    | int i =>
      have hm := b.m
      simp only [mx] at hm
      have tx := text_facts (i := i) (by omega)
      have hw : 500 ≤ W := by have := b.w; simp only [Lw.wt] at this; omega
      repeat walk_at "e"
      refine glk_some (d := .str (toString i)) (st := st2) (if_pos ?_) ?_
      · have := log2_small (i := i) (by omega) (by omega); omega
      repeat walk_at "e"
      refine fin rfl (D2.more (by omega)) (Fr.refl _ _ _) fun r hr => ?_
      have : r = .int (i + 1) ∨ r = .int (i - 1) ∨ r = .int (-1 - i) ∨ r = .bl (i == 1) ∨ r = .str (Str.ofString (toString i)) ∨ r = .lst [.int i] ∨ r = .non ∨ r = .int (i + 10) ∨ r = .tup [.int i] := by simpa using hr
      rcases this with rfl | rfl | rfl | rfl | rfl | rfl | rfl | rfl | rfl
      · exact Bx.int (by omega) (by omega)
      · exact Bx.int (by omega) (by omega)
      · exact Bx.int (by omega) (by omega)
      · exact ⟨rfl, by simp only [Lw.wt]; omega, by simp only [mx]; omega, Nat.zero_le _⟩
      · exact Bx.str tx.1 (by have := tx.2; omega)
      · exact (Bx.oneL b (by omega) (Nat.le_refl _)).mono (Nat.le_refl _) (by omega) (by omega)
      · exact ⟨rfl, by simp only [Lw.wt]; omega, by simp only [mx]; omega, Nat.zero_le _⟩
      · exact Bx.int (by omega) (by omega)
      · exact (Bx.one b (by omega) (Nat.le_refl _)).mono (Nat.le_refl _) (by omega) (by omega)
    | bl i =>
      have hw : 8 ≤ W := by have := b.w; simp only [Lw.wt] at this; omega
      have hb : 0 ≤ b2I i ∧ b2I i ≤ 1 := by cases i <;> exact ⟨by decide, by decide⟩
      repeat walk_at "e"
      refine lk_some (a := D.int (b2I i + 1)) rfl ?_
      repeat walk_at "e"
      refine lk_some (a := D.int (b2I i - 1)) rfl ?_
      repeat walk_at "e"
      refine lk_some (a := D.int (-1 - b2I i)) rfl ?_
      repeat walk_at "e"
      refine lk_some (a := D.bl ((if i then 1 else 0) == (1 : Int))) rfl ?_
      repeat walk_at "e"
      refine glk_some (d := .str (if i then "True" else "False")) (st := st2) rfl ?_
      repeat walk_at "e"
      refine lk_some (a := D.int (b2I i + 10)) rfl ?_
      repeat walk_at "e"
      refine fin rfl (D2.more (by omega)) (Fr.refl _ _ _) fun r hr => ?_
      have : r = .int (b2I i + 1) ∨ r = .int (b2I i - 1) ∨ r = .int (-1 - b2I i) ∨ r = .bl ((if i then 1 else 0) == (1 : Int)) ∨ r = .str (if i = true then Str.ofString "True" else Str.ofString "False") ∨ r = .lst [.bl i] ∨ r = .non ∨ r = .int (b2I i + 10) ∨ r = .tup [.bl i] := by simpa using hr
      rcases this with rfl | rfl | rfl | rfl | rfl | rfl | rfl | rfl | rfl
      · exact Bx.int (by omega) (by omega)
      · exact Bx.int (by omega) (by omega)
      · exact Bx.int (by omega) (by omega)
      · exact ⟨rfl, by simp only [Lw.wt]; omega, by simp only [mx]; omega, Nat.zero_le _⟩
      · cases i
        · exact Bx.lit (by decide +kernel) (by decide +kernel) (by omega)
        · exact Bx.lit (by decide +kernel) (by decide +kernel) (by omega)
      · exact (Bx.oneL b (by omega) (Nat.le_refl _)).mono (Nat.le_refl _) (by omega) (by omega)
      · exact ⟨rfl, by simp only [Lw.wt]; omega, by simp only [mx]; omega, Nat.zero_le _⟩
      · exact Bx.int (by omega) (by omega)
      · exact (Bx.one b (by omega) (Nat.le_refl _)).mono (Nat.le_refl _) (by omega) (by omega)
    | _ => cases hi
  rw [Bool.not_eq_true] at hi
  refine Cnd.no hi ?_
  repeat walk_at "e"
  have other : ∀ {P : D → Prop}, (∀ r, Bx (2 * W + 3000) (M + 20) (N + 2) r → P r) → Lk (ixD (.lst SM) (.int way) st2) P := fun h => lk_ix_lst w0 hlen fun r hr _ => h r (hsome r hr)
  by_cases ht : isTu d = true
  · cases d with
    | tup ds =>
      refine Cnd.no rfl ?_
      repeat walk_at "e"
      cases hd : ds with
      | nil =>
        refine Cnd.yes rfl ?_
        repeat walk_at "e"
        exact other fun r hr => ⟨hr, D2.more (by omega), F12⟩
      | cons a l =>
        refine Cnd.no rfl ?_
        rw [← hd]
        have hne : 1 ≤ ds.length := by rw [hd, List.length_cons]; omega
        have hw := b.w
        rw [wt_tup] at hw
        have hlw := wtL_len ds
        repeat walk_at "e"
        refine (draw_ok D2 (by omega) (by omega) (by omega)).to ?_
        rintro _ st3 ⟨at_, rfl, a0, a1, D3, F3⟩
        obtain ⟨p, rfl⟩ : ∃ p : Nat, at_ = (p : Int) := ⟨at_.toNat, by omega⟩
        have line : ∀ {es fs : List D}, wtL es ≤ 2 * wtL ds + 100 → wtL fs ≤ 2 * wtL ds + 100 → es.length + fs.length ≤ sizeLine := fun {es fs} h1 h2 => by
          have q1 := wtL_len es
          have q2 := wtL_len fs
          exact le_line (by omega)
        have cutw := fun lo hi => wtL_cutD ds lo hi
        have sub1 : ∀ {es : List D}, (∀ e ∈ es, e ∈ ds) → wtL es ≤ 2 * wtL ds → Bx (2 * W + 3000) (M + 20) (N + 2) (.tup es) := fun h1 h2 => (Bx.tup3 (W' := 2 * W + 3000) (N' := N + 2) b h1 (by omega) (by omega)).mono (Nat.le_refl _) (by omega) (Nat.le_refl _)
        have wat : wtL [D.str "at", .int 0] ≤ 600 := by
          have : (Str.ofString "at").length = 2 := by decide +kernel
          simp only [wtL, Lw.wt]; omega
        repeat walk_at "e"
        refine lk_some (a := D.tup (cutD ds none (some (p : Int)))) rfl ?_
        repeat walk_at "e"
        refine lk_some (a := D.tup (cutD ds (some ((p : Int) + 1)) none)) rfl ?_
        refine lk_add_tup (line (by have := cutw none (some (p : Int)); omega) (by have := cutw (some ((p : Int) + 1)) none; omega)) ?_
        repeat walk_at "e"
        refine lk_some (a := D.tup (cutD ds none (some ((p : Int) + 1)))) rfl ?_
        repeat walk_at "e"
        refine lk_some (a := D.tup (cutD ds (some (p : Int)) none)) rfl ?_
        refine lk_add_tup (line (by have := cutw none (some ((p : Int) + 1)); omega) (by have := cutw (some (p : Int)) none; omega)) ?_
        repeat walk_at "e"
        refine lk_some (a := D.tup ds.reverse) rfl ?_
        repeat walk_at "e"
        refine glk_some (d := .lst ds) (st := st3) rfl ?_
        repeat walk_at "e"
        refine lk_add_tup (le_line (by simp only [List.length_cons, List.length_nil]; omega)) ?_
        repeat walk_at "e"
        refine lk_some (a := D.tup (cutD ds none (some (-1)))) rfl ?_
        repeat walk_at "e"
        refine lk_add_tup (le_line (by simp only [List.length_cons, List.length_nil]; omega)) ?_
        repeat walk_at "e"
        refine ok_disp1 (d := .tup ds) rfl ?_
        repeat walk_at "e"
        refine lk_add_lst (le_line (by simp only [List.length_cons, List.length_nil]; omega)) ?_
        repeat walk_at "e"
        refine fin rfl ((D3.app _).more (by omega)) (F3.trans (Fr.app _)) fun r hr => ?_
        have hr : r = .tup (cutD ds none (some (p : Int)) ++ cutD ds (some ((p : Int) + 1)) none) ∨ r = .tup (cutD ds none (some ((p : Int) + 1)) ++ cutD ds (some (p : Int)) none) ∨ r = .tup ds.reverse ∨ r = .lst ds ∨ r = .tup (ds ++ [.tup [.str "at", .int 0]]) ∨ r = .tup (cutD ds none (some (-1))) ∨ r = .tup [.tup ds] ∨ r = .tup (ds ++ [.int 0]) ∨ r = .dct [.inl 0] [.tup ds] := by simpa using hr
        have mem2 : ∀ {lo hi lo' hi' : Option Int}, ∀ e ∈ cutD ds lo hi ++ cutD ds lo' hi', e ∈ ds := fun e he => by
          rcases List.mem_append.mp he with z | z
          · exact cutD_sub _ _ _ e z
          · exact cutD_sub _ _ _ e z
        have w2 : ∀ {lo hi lo' hi' : Option Int}, wtL (cutD ds lo hi ++ cutD ds lo' hi') ≤ 2 * wtL ds := fun {lo hi lo' hi'} => by
          rw [wtL_app]
          have := cutw lo hi
          have := cutw lo' hi'
          omega
        rcases hr with rfl | rfl | rfl | rfl | rfl | rfl | rfl | rfl | rfl
        · exact sub1 mem2 w2
        · exact sub1 mem2 w2
        · exact sub1 (fun e he => List.mem_reverse.mp he) (by rw [wtL_rev]; omega)
        · refine (Bx.lst (W := W) (N := N) (W' := 2 * W + 3000) (N' := N + 1) (fun e he => b.item he) (by omega) (Nat.le_refl _)).mono (Nat.le_refl _) (by omega) (by omega)
        · refine (Bx.tup (W := 2 * W + 3000) (M := M) (N := N + 1) (fun e he => ?_) (by rw [wtL_app, wtL_cons, wtL_nil, wt_tup]; omega) (Nat.le_refl _)).mono (Nat.le_refl _) (by omega) (by omega)
          rcases List.mem_append.mp he with z | z
          · exact (b.item z).mono (by omega) (Nat.le_refl _) (by omega)
          · obtain rfl := List.mem_singleton.mp z
            refine Bx.tup (W := 500) (N := 0) (fun e he => ?_) (by omega) (by omega)
            rcases List.mem_cons.mp he with rfl | he
            · exact Bx.lit (by decide +kernel) (by decide +kernel) (by decide)
            · obtain rfl := List.mem_singleton.mp he; exact Bx.int (Nat.zero_le _) (by decide)
        · exact sub1 (cutD_sub _ _ _) (by have := cutw none (some (-1)); omega)
        · exact (Bx.one b (by omega) (Nat.le_refl _)).mono (Nat.le_refl _) (by omega) (by omega)
        · refine (Bx.tup (W := 2 * W + 3000) (M := M) (N := N + 1) (fun e he => ?_) (by rw [wtL_app, wtL_cons, wtL_nil]; simp only [Lw.wt]; omega) (Nat.le_refl _)).mono (Nat.le_refl _) (by omega) (by omega)
          rcases List.mem_append.mp he with z | z
          · exact (b.item z).mono (by omega) (Nat.le_refl _) (by omega)
          · obtain rfl := List.mem_singleton.mp z; exact Bx.int (Nat.zero_le _) (by omega)
        · have hb := b.n
          refine ⟨by have := b.a; simp only [asc] at this; simp [asc, ascL, this], by have := b.w; simp only [Lw.wt, wtL, List.length_cons, List.length_nil] at this ⊢; omega, by have := b.m; simp only [mx, mxL] at this ⊢; omega, ?_⟩
          show dp (.dct [.inl 0] [.tup ds]) ≤ _
          have : dp (.dct [.inl 0] [.tup ds]) = dp (.tup ds) + 1 := by simp [dp, py, pyL, PyData.depth, PyData.depthKv, keyPy]
          omega
    | _ => cases ht
  · rw [Bool.not_eq_true] at ht
    refine Cnd.yes (by rw [ht]; rfl) ?_
    repeat walk_at "e"
    exact other fun r hr => ⟨hr, D2.more (by omega), F12⟩
end Lw

namespace Lw
open PySem PySem.Spec L2 Pd
local macro_rules | `(tactic| walk_at "d") => `(tactic| first
  | with_reducible refine sk_seq ?_ | with_reducible refine sk_set ?_ | with_reducible refine sk_ite ?_ | with_reducible refine sk_ret ?_ | with_reducible refine sk_nil ?_ | with_reducible refine sk_expr ?_
  | with_reducible refine sk_par ?_ | with_reducible refine sk_asg ?_ | with_reducible refine sk_setIx ?_ | with_reducible refine sk_star ?_ | with_reducible refine sk_for ?_ | with_reducible refine sk_retN ?_
  | with_reducible refine sk_break ?_ | with_reducible refine sk_cont ?_
  | ((with_reducible refine ok_var (d := ?d) ?h ?_); (case h => exact rfl)) | with_reducible refine ok_c ?_ | with_reducible refine ok_nil ?_ | with_reducible refine ok_cons ?_ | with_reducible refine ok_op ?_
  | with_reducible refine ok_opC ?_ | with_reducible refine ok_un ?_ | with_reducible refine ok_unC ?_ | with_reducible refine ok_not ?_ | with_reducible refine ok_and ?_ | with_reducible refine ok_or ?_
  | with_reducible refine ok_chain ?_ | with_reducible refine ok_ite ?_ | with_reducible refine ok_blt ?_ | with_reducible refine ok_call ?_ | with_reducible refine ok_oNone ?_ | with_reducible refine ok_sl ?_
  | with_reducible refine ok_dnew ?_ | with_reducible refine ok_dnewC ?_ | with_reducible refine ok_B ?_ | with_reducible refine ok_tAnd ?_ | with_reducible refine ok_tOr ?_ | with_reducible refine ok_tNot ?_
  | with_reducible refine ok_tYes ?_ | with_reducible refine ok_iAny ?_ | with_reducible refine ok_lc ?_ | with_reducible refine ok_lcC ?_
  | with_reducible refine blk_bl ?_
  | with_reducible refine Cnd.t ?_ | with_reducible refine Cnd.f ?_ | with_reducible refine Cnd.nt ?_ | with_reducible refine Cnd.nf ?_
  | with_reducible refine lk_add_int ?_ | with_reducible refine lk_sub_int ?_ | with_reducible refine lk_lt_int ?_ | with_reducible refine lk_le_int ?_ | with_reducible refine lk_gt_int ?_ | with_reducible refine lk_ge_int ?_
  | (with_reducible refine ok_tup ?_) | (with_reducible refine ok_lst ?_) | (with_reducible refine ok_lstC ?_)
  | (with_reducible refine ok_mt ?_) | (with_reducible refine ok_repl ?_)
  | (with_reducible refine ok_neg ?_) | (with_reducible refine ok_oSome ?_)
  | (with_reducible refine ok_iRng1 ?_) | (with_reducible refine ok_iRng2 ?_)
  | (with_reducible refine ⟨_, rfl, ?_⟩)
  | (refine ⟨by first | rfl | decide, ?_⟩))
local macro_rules | `(tactic| walk_at "e") => `(tactic| first
  | walk_at "d"
  | with_reducible refine lk_isi_str (by assumption) ?_ | with_reducible refine lk_isi_int (by assumption) ?_ | with_reducible refine lk_isi_bool (by assumption) ?_ | with_reducible refine lk_isi_tuple (by assumption) ?_
  | with_reducible refine lk_eq_str ?_ | with_reducible refine lk_ne_str ?_ | with_reducible refine lk_eq_int ?_ | with_reducible refine lk_ne_int ?_ | with_reducible refine lk_eq_nil ?_ | with_reducible refine lk_ne_nil ?_
  | with_reducible refine lk_eq_tnil ?_ | with_reducible refine lk_ne_tnil ?_ | with_reducible refine lk_in_strs rfl ?_ | with_reducible refine lk_nin_strs rfl ?_
  | ((with_reducible refine lk_ixt (a := ?a) ?h ?_); (case h => exact rfl)) | ((with_reducible refine lk_ixl (a := ?a) ?h ?_); (case h => exact rfl))
  | with_reducible refine glk_len_tup ?_ | with_reducible refine glk_len_lst ?_ | with_reducible refine glk_len_str (le_line (by omega)) ?_
  | with_reducible refine ⟨le_line (by (simp only [List.length_cons, List.length_nil]; omega)), ?_⟩)
theorem bent_gen : ∀ (e : Nat) {d : D} {st : Sto} {n m : Nat} {t : Int} {k : Nat} {E : ErP}, asc d = true → wt d ≤ 270000 → mx d ≤ 10 ^ 39 + 1000 → dp d ≤ e → e + 4 ≤ k → Dk st n m t → t + 20 * ((e : Int) + 1) ≤ 10 ^ 19 →
    Ok (run k 16 [.cell n, d] st) (fun r st' => Bx (2 * wt d + 3000) (mx d + 20) (dp d + 2) r ∧ Dk st' n m (t + 20 * ((e : Int) + 1)) ∧ Fr n m st st') E := by
  intro e
  induction e with
  | zero =>
    intro d st n m t k E ha hw hm hd hk D0 ht
    obtain ⟨k, rfl⟩ : ∃ j, k = j + 3 := ⟨k - 3, by omega⟩
    have b : Bx (wt d) (mx d) (dp d) d := ⟨ha, Nat.le_refl _, Nat.le_refl _, Nat.le_refl _⟩
    have g : gd d = true := b.gd (by omega) (by omega)
    refine ok_fn (en := [some (.cell n), some d, none, none, none]) rfl ?_
    unfold b16
    repeat walk_at "e"
    refine (draw_ok D0 (by omega) (by decide) (by decide)).to ?_
    rintro _ st1 ⟨way, rfl, w0, w1, D1, F1⟩
    repeat walk_at "e"
    refine (draw_ok D1 (by omega) (by decide) (by decide)).to ?_
    rintro _ st2 ⟨la, rfl, l0, l1, D2, F2⟩
    repeat walk_at "e"
    have ht : isTu d = false := by
      cases d with
      | tup ds => rw [dp_tup] at hd; omega
      | _ => rfl
    refine Cnd.no ht ?_
    repeat walk_at "e"
    refine (odd_gen b (by omega) (by omega) D2 (by omega)).to ?_
    rintro r st3 ⟨hb, D3, F3⟩
    exact ⟨hb, D3.more (by omega), (F1.trans F2).trans F3⟩
  | succ e ih =>
    intro d st n m t k E ha hw hm hd hk D0 ht
    obtain ⟨k, rfl⟩ : ∃ j, k = j + 4 := ⟨k - 4, by omega⟩
    have b : Bx (wt d) (mx d) (dp d) d := ⟨ha, Nat.le_refl _, Nat.le_refl _, Nat.le_refl _⟩
    have g : gd d = true := b.gd (by omega) (by omega)
    refine ok_fn (en := [some (.cell n), some d, none, none, none]) rfl ?_
    unfold b16
    repeat walk_at "e"
    refine (draw_ok D0 (by omega) (by decide) (by decide)).to ?_
    rintro _ st1 ⟨way, rfl, w0, w1, D1, F1⟩
    repeat walk_at "e"
    refine (draw_ok D1 (by omega) (by decide) (by decide)).to ?_
    rintro _ st2 ⟨la, rfl, l0, l1, D2, F2⟩
    repeat walk_at "e"
    have F12 := F1.trans F2
    have odd : Ok (run (k + 3) 15 [.cell n, d] st2) (fun r st' => Bx (2 * wt d + 3000) (mx d + 20) (dp d + 2) r ∧ Dk st' n m (t + 20 * (((e + 1 : Nat) : Int) + 1)) ∧ Fr n m st st') E := by
      refine (odd_gen b (by omega) (by omega) D2 (by omega)).to ?_
      rintro r st3 ⟨hb, D3, F3⟩
      exact ⟨hb, D3.more (by omega), F12.trans F3⟩
    by_cases ht : isTu d = true
    · cases d with
      | tup ds =>
        refine Cnd.yes rfl ?_
        repeat walk_at "e"
        cases hd0 : ds with
        | nil =>
          refine Cnd.no rfl ?_
          repeat walk_at "e"
          subst hd0
          exact odd
        | cons a l =>
          refine Cnd.yes rfl ?_
          rw [← hd0]
          have hne : 1 ≤ ds.length := by rw [hd0, List.length_cons]; omega
          rw [wt_tup] at hw
          have hlw := wtL_len ds
          repeat walk_at "e"
          refine Cnd.of (fun c1 => ?_) (fun c1 => ?_)
          · repeat walk_at "e"
            refine (draw_ok D2 (by omega) (by omega) (by omega)).to ?_
            rintro _ st3 ⟨a0, rfl, a1, a2, D3, F3⟩
            repeat walk_at "e"
            refine glk_int_bl ?_
            refine lk_ix_lst (by split <;> decide) (by show (if (la == 1) = true then (1 : Int) else 0) < 2; split <;> decide) fun at_ hat _ => ?_
            obtain ⟨p, rfl, hp⟩ : ∃ p : Nat, at_ = .int (p : Int) ∧ p < ds.length := by
              have : at_ = .int a0 ∨ at_ = .int ((ds.length : Nat) - 1) := by simpa using hat
              rcases this with rfl | rfl
              · exact ⟨a0.toNat, by congr 1; omega, by omega⟩
              · exact ⟨ds.length - 1, by congr 1; omega, by omega⟩
            repeat walk_at "e"
            refine lk_some (a := D.tup (ds.take p)) (congrArg (fun z => some (D.tup z)) (cutD_hi ds p)) ?_
            repeat walk_at "e"
            refine lk_ix_tup (by omega) (by omega) fun x hx hxi => ?_
            have hxi : ds[p]? = some x := by simpa using hxi
            have bx : Bx (wt x) (mx x) (dp x) x := ⟨(b.item hx).a, Nat.le_refl _, Nat.le_refl _, Nat.le_refl _⟩
            have hwx := wtL_mem hx
            have hmx : mx x ≤ mx (.tup ds) := (b.item hx).m
            have hdx := dp_item hx
            have split3 : wtL (ds.take p) + (wt x + 4 + wtL (ds.drop (p + 1))) = wtL ds := by
              have q := wtL_cut ds p
              have e2 : ds.drop p = x :: ds.drop (p + 1) := by
                have hp' : ds[p] = x := by
                  rw [List.getElem?_eq_getElem hp] at hxi; exact Option.some.inj hxi
                rw [← hp']; exact List.drop_eq_getElem_cons hp
              rw [e2, wtL_cons] at q
              exact q
            repeat walk_at "e"
            refine (ih bx.a (by omega) (by omega) (by omega) (by omega) D3 (by push_cast at ht ⊢; omega)).to ?_
            rintro x' st4 ⟨bx', D4, F4⟩
            repeat walk_at "e"
            have lt1 := wtL_len (ds.take p)
            have lt2 := wtL_len (ds.drop (p + 1))
            refine lk_add_tup (le_line (by rw [List.length_cons, List.length_nil]; omega)) ?_
            repeat walk_at "e"
            refine lk_some (a := D.tup (ds.drop (p + 1))) (by
              have q := cutD_lo ds (p + 1)
              have e3 : ((p + 1 : Nat) : Int) = (p : Int) + 1 := by omega
              rw [e3] at q
              exact congrArg (fun z => some (D.tup z)) q) ?_
            refine lk_add_tup (le_line (by rw [List.length_append, List.length_cons, List.length_nil]; omega)) ?_
            refine ⟨?_, D4.more (by push_cast; omega), (F12.trans F3).trans F4⟩
            rw [wt_tup]
            refine Bx.tup (W := 2 * wtL ds + 3000) (M := mx (.tup ds) + 20) (N := dp (.tup ds) + 1) (fun y hy => ?_) ?_ (Nat.le_refl _)
            · have keep : y ∈ ds → Bx (2 * wtL ds + 3000) (mx (.tup ds) + 20) (dp (.tup ds) + 1) y := fun h => by
                have q := b.item h
                have q2 := wtL_mem h
                exact ⟨q.a, by omega, by have := q.m; omega, by have := q.n; omega⟩
              rcases List.mem_append.mp hy with hy | hy
              · rcases List.mem_append.mp hy with hy | hy
                · exact keep (List.mem_of_mem_take hy)
                · obtain rfl := List.mem_singleton.mp hy
                  exact bx'.mono (by omega) (by omega) (by omega)
              · exact keep (List.mem_of_mem_drop hy)
            · have := bx'.w
              rw [wtL_app, wtL_app, wtL_cons, wtL_nil]
              omega
          · repeat walk_at "e"
            exact odd
      | _ => cases ht
    · rw [Bool.not_eq_true] at ht
      refine Cnd.no ht ?_
      repeat walk_at "e"
      exact odd
end Lw

namespace Lw
open PySem PySem.Spec L2 Pd
local macro_rules | `(tactic| walk_at "d") => `(tactic| first
  | with_reducible refine sk_seq ?_ | with_reducible refine sk_set ?_ | with_reducible refine sk_ite ?_ | with_reducible refine sk_ret ?_ | with_reducible refine sk_nil ?_ | with_reducible refine sk_expr ?_
  | with_reducible refine sk_par ?_ | with_reducible refine sk_asg ?_ | with_reducible refine sk_setIx ?_ | with_reducible refine sk_star ?_ | with_reducible refine sk_for ?_ | with_reducible refine sk_retN ?_
  | with_reducible refine sk_break ?_ | with_reducible refine sk_cont ?_
  | ((with_reducible refine ok_var (d := ?d) ?h ?_); (case h => exact rfl)) | with_reducible refine ok_c ?_ | with_reducible refine ok_nil ?_ | with_reducible refine ok_cons ?_ | with_reducible refine ok_op ?_
  | with_reducible refine ok_opC ?_ | with_reducible refine ok_un ?_ | with_reducible refine ok_unC ?_ | with_reducible refine ok_not ?_ | with_reducible refine ok_and ?_ | with_reducible refine ok_or ?_
  | with_reducible refine ok_chain ?_ | with_reducible refine ok_ite ?_ | with_reducible refine ok_blt ?_ | with_reducible refine ok_call ?_ | with_reducible refine ok_oNone ?_ | with_reducible refine ok_sl ?_
  | with_reducible refine ok_dnew ?_ | with_reducible refine ok_dnewC ?_ | with_reducible refine ok_B ?_ | with_reducible refine ok_tAnd ?_ | with_reducible refine ok_tOr ?_ | with_reducible refine ok_tNot ?_
  | with_reducible refine ok_tYes ?_ | with_reducible refine ok_iAny ?_ | with_reducible refine ok_lc ?_ | with_reducible refine ok_lcC ?_
  | with_reducible refine blk_bl ?_
  | with_reducible refine Cnd.t ?_ | with_reducible refine Cnd.f ?_ | with_reducible refine Cnd.nt ?_ | with_reducible refine Cnd.nf ?_
  | with_reducible refine lk_add_int ?_ | with_reducible refine lk_sub_int ?_ | with_reducible refine lk_lt_int ?_ | with_reducible refine lk_le_int ?_ | with_reducible refine lk_gt_int ?_ | with_reducible refine lk_ge_int ?_
  | (with_reducible refine ok_tup ?_) | (with_reducible refine ok_lst ?_) | (with_reducible refine ok_lstC ?_)
  | (with_reducible refine ok_mt ?_) | (with_reducible refine ok_repl ?_)
  | (with_reducible refine ok_neg ?_) | (with_reducible refine ok_oSome ?_)
  | (with_reducible refine ok_iRng1 ?_) | (with_reducible refine ok_iRng2 ?_)
  | (with_reducible refine ⟨_, rfl, ?_⟩)
  | (refine And.intro (Eq.refl _) ?_) | (refine And.intro (by decide) ?_))
local macro_rules | `(tactic| walk_at "e") => `(tactic| first
  | walk_at "d"
  | with_reducible refine lk_isi_str (by assumption) ?_ | with_reducible refine lk_isi_int (by assumption) ?_ | with_reducible refine lk_isi_bool (by assumption) ?_ | with_reducible refine lk_isi_tuple (by assumption) ?_
  | with_reducible refine lk_eq_str ?_ | with_reducible refine lk_ne_str ?_ | with_reducible refine lk_eq_int ?_ | with_reducible refine lk_ne_int ?_ | with_reducible refine lk_eq_nil ?_ | with_reducible refine lk_ne_nil ?_
  | with_reducible refine lk_eq_tnil ?_ | with_reducible refine lk_ne_tnil ?_ | with_reducible refine lk_in_strs rfl ?_ | with_reducible refine lk_nin_strs rfl ?_
  | ((with_reducible refine lk_ixt (a := ?a) ?h ?_); (case h => exact rfl)) | ((with_reducible refine lk_ixl (a := ?a) ?h ?_); (case h => exact rfl))
  | with_reducible refine glk_len_tup ?_ | with_reducible refine glk_len_lst ?_ | with_reducible refine glk_len_str (le_line (by omega)) ?_
  | with_reducible refine ⟨le_line (by (simp only [List.length_cons, List.length_nil]; omega)), ?_⟩)
abbrev Fit (d : D) : Prop := Bx 900000 (10 ^ 40) 80 d
theorem join_asS {z : Str} (hz : asS z) : ∀ {l : List Str}, (∀ p ∈ l, asS p) → asS (Str.join z l)
  | [], _ => fun c hc => by
    have : cs (Str.join z []) = [] := rfl
    rw [this] at hc; cases hc
  | [p], h => h p (.head _)
  | p :: q :: r, h => by
    have e : Str.join z (p :: q :: r) = p ++ z ++ Str.join z (q :: r) := rfl
    rw [e]
    exact ((h p (.head _)).app hz).app (join_asS hz fun a ha => h a (.tail _ ha))
theorem parts_asS {x : Str} (hx : asS x) (cuts : List Nat) (w : Nat) : ∀ p ∈ Builtin.Str.partsBetween x cuts w, asS p := fun p hp => by
  unfold Builtin.Str.partsBetween at hp
  obtain ⟨⟨i, j⟩, _, rfl⟩ := List.mem_map.mp hp
  intro c hc
  have hc : c ∈ (Builtin.Str.strSub x i j).cps.toList := hc
  rw [StrLaws.strSub_toList] at hc
  exact hx c (List.mem_of_mem_drop (List.mem_of_mem_take hc))
theorem repl_asS {x y z : Str} (hx : asS x) (hz : asS z) : asS (Txt.replace x y z) := by
  unfold Txt.replace
  split
  · exact hx
  · rw [StrLaws.glued_eq_join]
    exact join_asS hz (parts_asS hx _ _)
theorem lk_isnot {a b : Bool} {st : Sto} {Q : D → Prop} (h : Q (.bl (!(a == b)))) : Lk (isNotD (.bl a) (.bl b) st) Q := h
theorem lk_add_cell {n : Nat} {xs ys : List D} {st : Sto} {Q : D → Prop} (e : st[n]? = some (.lst xs)) (hl : xs.length + ys.length ≤ sizeLine) (h : Q (.lst (xs ++ ys))) : Lk (addD (.cell n) (.lst ys) st) Q := by
  refine lk_some (a := .lst (xs ++ ys)) ?_ h
  show (match deref st (.cell n), deref st (.lst ys) with | .lst xs, .lst ys => if small (xs.length + ys.length) = true then some (D.lst (xs ++ ys)) else none | _, _ => none) = _
  rw [deref_cell, e]
  exact if_pos (small_iff.mpr hl)
theorem fit_str {x : Str} (h : asS x) (hl : x.length ≤ 5000) : Fit (.str x) := Bx.str h (by omega)
theorem lit_str {s : String} (h : ((Str.ofString s).cps.toList.all fun c => decide (c < 128)) = true) (hl : (Str.ofString s).length ≤ 20) : asS (Str.ofString s) ∧ (Str.ofString s).length ≤ 20 := ⟨asS_lit h, hl⟩
/-- a short ascii text -/
structure Sh (x : Str) (k : Nat) : Prop where
  a : asS x
  l : x.length ≤ k
theorem Sh.app {x y : Str} {i j : Nat} (a : Sh x i) (b : Sh y j) : Sh (x ++ y) (i + j) := ⟨a.a.app b.a, by rw [len_app]; have := a.l; have := b.l; omega⟩
theorem Sh.fit {x : Str} {i : Nat} (a : Sh x i) (h : i ≤ 5000) : Fit (.str x) := fit_str a.a (Nat.le_trans a.l h)
theorem sh_lit {s : String} (h : (((Str.ofString s).cps.toList.all fun c => decide (c < 128)) && decide ((Str.ofString s).length ≤ 20)) = true) : Sh (Str.ofString s) 20 := by
  rw [Bool.and_eq_true] at h
  exact ⟨asS_lit h.1, of_decide_eq_true h.2⟩
theorem lk_add_sh {x y : Str} {i j : Nat} {st : Sto} {Q : D → Prop} (a : Sh x i) (b : Sh y j) (hij : i + j ≤ 100000) (h : Sh (x ++ y) (i + j) → Q (.str (x ++ y))) : Lk (addD (.str x) (.str y) st) Q :=
  lk_add_str (le_line (by have := a.l; have := b.l; omega)) (h (a.app b))
theorem nines {k : Int} (h : 1 ≤ k ∧ k ≤ 41) : Sh (Txt.mul (Str.ofString "9") k) 41 := by
  have : k = 40 ∨ k = 41 ∨ (1 ≤ k ∧ k ≤ 39) := by omega
  unfold Txt.mul
  rw [if_neg (by omega)]
  split
  · exact ⟨asS_lit (by decide +kernel), by decide +kernel⟩
  · have e9 : (Str.ofString "9").cps = #[57] := by decide +kernel
    rw [e9]
    have key : ∀ (j : Nat) (acc : Array Nat), (∀ c ∈ acc.toList, c < 128) → (∀ c ∈ ((List.replicate j #[57]).foldl (· ++ ·) acc).toList, c < 128) ∧ ((List.replicate j #[57]).foldl (· ++ ·) acc).size = acc.size + j := by
      intro j
      induction j with
      | zero => intro acc h; exact ⟨h, rfl⟩
      | succ j ih =>
        intro acc h
        rw [List.replicate_succ, List.foldl_cons]
        obtain ⟨h1, h2⟩ := ih (acc ++ #[57]) (fun c hc => by
          rw [Array.toList_append] at hc
          rcases List.mem_append.mp hc with z | z
          · exact h c z
          · have : c = 57 := by simpa using z
            omega)
        refine ⟨h1, ?_⟩
        rw [h2, Array.size_append]
        show acc.size + 1 + j = _
        omega
    obtain ⟨h1, h2⟩ := key k.toNat #[] (fun c hc => by simp at hc)
    refine ⟨h1, ?_⟩
    show _ ≤ 41
    unfold Str.length
    show ((List.replicate k.toNat #[57]).foldl (· ++ ·) #[]).size ≤ 41
    rw [h2]
    show 0 + k.toNat ≤ 41
    omega
theorem lk_mul9 {k : Int} {st : Sto} {Q : D → Prop} (hk : 1 ≤ k ∧ k ≤ 41) (h : ∀ y, Sh y 41 → Q (.str y)) : Lk (mulD (.str (Str.ofString "9")) (.int k) st) Q := by
  refine lk_some (a := D.str (Txt.mul (Str.ofString "9") k)) ?_ (h _ (nines hk))
  show (if 1 ≤ k ∧ k ≤ 1000 ∧ (Str.ofString "9").length ≤ 1000 then some (D.str (Txt.mul (Str.ofString "9") k)) else none) = _
  exact if_pos ⟨hk.1, by omega, by decide +kernel⟩
/-- the last look: every thing that is fit is right -/
theorem all_right {ds : List D} {en : En} {i : Nat} {st : Sto} {k : Nat} {E : ErP} {PL : List D → Sto → Prop} (hk : 170 ≤ k) (hf : ∀ d ∈ ds, Fit d) (hl : ds.length ≤ 1000) (hi : i < en.length) (h : PL [] st) :
    Ok (lcLoop (gmName i) (tmNot (mB (mCall (run k 23) 1 (lCons (mVar i) (lNil))))) (mVar i) en ds [] st) PL E := by
  refine ok_lc_pure (fun _ => false) (fun d => d) (le_line (by omega)) (fun d hd => ?_) ?_
  · have e : (en.set i (some d))[i]? = some (some d) := List.getElem?_set_self hi
    refine ⟨_, rfl, is_of ?_, fun z => nomatch z⟩
    refine ok_tNot ?_
    refine ok_B ?_
    refine ok_call ?_
    refine ok_cons ?_
    refine ok_var e ?_
    refine ok_nil ?_
    refine ⟨rfl, ?_⟩
    refine ok_of (right_ok (hf d hd) (by decide) (Nat.le_refl _) (Nat.le_refl _) hk) ?_
    exact ⟨rfl, rfl⟩
  · have : ds.filter (fun _ => false) = [] := List.filter_eq_nil_iff.mpr fun _ _ h => nomatch h
    rw [this]; exact h
set_option maxHeartbeats 4000000 in
theorem names_ok {st : Sto} {n m : Nat} {t : Int} (D0 : Dk st n m t) (ht : t ≤ 10 ^ 17) {k : Nat} (hk : 180 ≤ k) {E : ErP} :
    Ok (run k 24 [.cell n] st) (fun r st' => r = .bl true ∧ Dk st' n m (t + 100) ∧ Fr n m st st') E := by
  obtain ⟨k, rfl⟩ : ∃ j, k = j + 10 := ⟨k - 10, by omega⟩
  refine ok_fn (en := [some (.cell n), none, none, none, none]) rfl ?_
  unfold b24
  repeat walk_at "e"
  refine (name_gen D0 (by omega)).to ?_
  rintro _ st1 ⟨near, rfl, hn, D1, F1⟩
  repeat walk_at "e"
  refine (far_gen D1 (by omega)).to ?_
  rintro _ st2 ⟨far, rfl, hf, fl, fs, D2, F2⟩
  have nn := nm_facts hn
  have sn : Sh near 8 := ⟨nn.2.2, nn.2.1⟩
  have sf : Sh far 60 := ⟨fs, fl⟩
  have gn : gd (.str near) = true := (sn.fit (by decide)).gd (Nat.le_refl _) (Nat.le_refl _)
  have gf : gd (.str far) = true := (sf.fit (by decide)).gd (Nat.le_refl _) (Nat.le_refl _)
  repeat walk_at "e"
  refine ok_of (name_ok gn) ?_
  repeat walk_at "e"
  refine lk_isnot ?_
  repeat walk_at "e"
  refine Cnd.no (by show (!(isNm near == true)) = false; rw [hn]; rfl) ?_
  repeat walk_at "e"
  refine ok_of (far_ok gf) ?_
  repeat walk_at "e"
  refine lk_isnot ?_
  repeat walk_at "e"
  refine Cnd.no (by show (!(isFarS far == true)) = false; rw [hf]; rfl) ?_
  have sd : Sh (Str.ofString ".") 20 := sh_lit (by decide +kernel)
  repeat walk_at "e"
  refine lk_add_sh sn sf (by decide) fun q1 => ?_
  repeat walk_at "e"
  refine lk_add_sh sf sd (by decide) fun q2 => ?_
  repeat walk_at "e"
  refine lk_add_sh q2 sn (by decide) fun q3 => ?_
  repeat walk_at "e"
  refine lk_add_sh sn sd (by decide) fun q4 => ?_
  repeat walk_at "e"
  refine lk_add_sh q4 sf (by decide) fun q5 => ?_
  have cutsh : ∀ lo hi, Sh (cutS far lo hi) 60 := fun lo hi => ⟨(cut_facts fs lo hi).1, Nat.le_trans (cut_facts fs lo hi).2 fl⟩
  repeat walk_at "e"
  refine lk_some (a := D.str (cutS far (some 1) none)) (by show (if small far.length = true then some (D.str (cutS far (some 1) none)) else none) = _; exact if_pos (small_iff.mpr (le_line (by omega)))) ?_
  repeat walk_at "e"
  refine lk_some (a := D.str (cutS far none (some (-1)))) (by show (if small far.length = true then some (D.str (cutS far none (some (-1)))) else none) = _; exact if_pos (small_iff.mpr (le_line (by omega)))) ?_
  repeat walk_at "e"
  have fit1 : ∀ d ∈ [D.str "abcdefgh", .str "abcdefghi", .str (near ++ far), .str (far ++ Str.ofString "." ++ near), .str (near ++ Str.ofString "." ++ far), .str (cutS far (some 1) none), .str (cutS far none (some (-1)))], Fit d := fun d hd => by
    have : d = .str "abcdefgh" ∨ d = .str "abcdefghi" ∨ d = .str (near ++ far) ∨ d = .str (far ++ Str.ofString "." ++ near) ∨ d = .str (near ++ Str.ofString "." ++ far) ∨ d = .str (cutS far (some 1) none) ∨ d = .str (cutS far none (some (-1))) := by simpa using hd
    rcases this with rfl | rfl | rfl | rfl | rfl | rfl | rfl
    · exact (sh_lit (by decide +kernel)).fit (by decide)
    · exact (sh_lit (by decide +kernel)).fit (by decide)
    · exact q1.fit (by decide)
    · exact q3.fit (by decide)
    · exact q5.fit (by decide)
    · exact (cutsh _ _).fit (by decide)
    · exact (cutsh _ _).fit (by decide)
  have len1 : ([D.str "abcdefgh", .str "abcdefghi", .str (near ++ far), .str (far ++ Str.ofString "." ++ near), .str (near ++ Str.ofString "." ++ far), .str (cutS far (some 1) none), .str (cutS far none (some (-1)))] : List D).length ≤ 10 := by show 7 ≤ 10; decide
  generalize [D.str "abcdefgh", .str "abcdefghi", .str (near ++ far), .str (far ++ Str.ofString "." ++ near), .str (near ++ Str.ofString "." ++ far), .str (cutS far (some 1) none), .str (cutS far none (some (-1)))] = S1 at fit1 len1 ⊢
  have e0 : (Str.ofString "").length = 0 := by decide +kernel
  have repl : ∀ {z : String}, (((Str.ofString z).cps.toList.all fun c => decide (c < 128)) && decide ((Str.ofString z).length ≤ 2)) = true → far.length + (far.length + 1) * (Str.ofString z).length ≤ 16777216 ∧ Sh (Txt.replace far (Str.ofString ".") (Str.ofString z)) 200 := fun {z} h => by
    rw [Bool.and_eq_true] at h
    have h2 := of_decide_eq_true h.2
    have h3 : (far.length + 1) * (Str.ofString z).length ≤ 61 * 2 := Nat.mul_le_mul (by omega) h2
    refine ⟨by omega, repl_asS fs (asS_lit h.1), ?_⟩
    have := TK.replace_len far (Str.ofString ".") (Str.ofString z)
    omega
  repeat walk_at "e"
  refine ⟨(repl (z := "") (by decide +kernel)).1, ?_⟩
  repeat walk_at "e"
  refine lk_add_sh sn sd (by decide) fun q6 => ?_
  repeat walk_at "e"
  refine lk_add_sh sd sn (by decide) fun q7 => ?_
  repeat walk_at "e"
  refine lk_add_sh sn (sh_lit (by decide +kernel)) (by decide) fun q8 => ?_
  repeat walk_at "e"
  refine lk_add_sh sn (sh_lit (by decide +kernel)) (by decide) fun q9 => ?_
  repeat walk_at "e"
  refine lk_add_sh q9 sn (by decide) fun q10 => ?_
  repeat walk_at "e"
  have r1 := (repl (z := "") (by decide +kernel)).2
  refine lk_cat_lst (le_line (by simp only [List.length_cons, List.length_nil]; omega)) ?_
  have fit2 : ∀ d ∈ S1 ++ [D.str (Txt.replace far (Str.ofString ".") (Str.ofString "")), .str (near ++ Str.ofString "."), .str (Str.ofString "." ++ near), .str (near ++ Str.ofString ".1"), .str (near ++ Str.ofString ".-1." ++ near)], Fit d := fun d hd => by
    rcases List.mem_append.mp hd with hd | hd
    · exact fit1 d hd
    have : d = .str (Txt.replace far (Str.ofString ".") (Str.ofString "")) ∨ d = .str (near ++ Str.ofString ".") ∨ d = .str (Str.ofString "." ++ near) ∨ d = .str (near ++ Str.ofString ".1") ∨ d = .str (near ++ Str.ofString ".-1." ++ near) := by simpa using hd
    rcases this with rfl | rfl | rfl | rfl | rfl
    · exact r1.fit (by decide)
    · exact q6.fit (by decide)
    · exact q7.fit (by decide)
    · exact q8.fit (by decide)
    · exact q10.fit (by decide)
  have len2 : (S1 ++ [D.str (Txt.replace far (Str.ofString ".") (Str.ofString "")), .str (near ++ Str.ofString "."), .str (Str.ofString "." ++ near), .str (near ++ Str.ofString ".1"), .str (near ++ Str.ofString ".-1." ++ near)]).length ≤ 20 := by
    rw [List.length_append]; simp only [List.length_cons, List.length_nil]; omega
  generalize S1 ++ [D.str (Txt.replace far (Str.ofString ".") (Str.ofString "")), .str (near ++ Str.ofString "."), .str (Str.ofString "." ++ near), .str (near ++ Str.ofString ".1"), .str (near ++ Str.ofString ".-1." ++ near)] = S2 at fit2 len2 ⊢
  refine ⟨S2, rfl, ?_⟩
  have hc : (st2 ++ [Cel.lst S2])[st2.length]? = some (.lst S2) := get_new
  have D3 := D2.app [Cel.lst S2]
  have F3 : Fr n m st (st2 ++ [Cel.lst S2]) := (F1.trans F2).trans (Fr.app _)
  have nl : ∀ {j : Nat} {c : Cel}, st[j]? = some c → j < st2.length := fun {j c} h => by
    by_cases h1 : j = n
    · subst h1
      obtain ⟨_, _, _, _, q, _⟩ := D2.ex
      exact (List.getElem?_eq_some_iff.mp q).1
    by_cases h2 : j = m
    · subst h2
      obtain ⟨_, _, _, _, _, q, _⟩ := D2.ex
      exact (List.getElem?_eq_some_iff.mp q).1
    exact (List.getElem?_eq_some_iff.mp ((F1.trans F2) j c h1 h2 h)).1
  have cn : st2.length ≠ n := fun z => by
    obtain ⟨_, _, _, _, q, _⟩ := D2.ex
    have := (List.getElem?_eq_some_iff.mp q).1
    omega
  have cm : st2.length ≠ m := fun z => by
    obtain ⟨_, _, _, _, _, q, _⟩ := D2.ex
    have := (List.getElem?_eq_some_iff.mp q).1
    omega
  have ty : tyM "list" (st2 ++ [Cel.lst S2]) (.cell st2.length) = true := by
    show (match (st2 ++ [Cel.lst S2])[st2.length]? with | some (.lst _) => decide ("list" = "list") | some (.dct _ _) => decide ("list" = "dict") | _ => false) = true
    rw [hc]; rfl
  repeat walk_at "e"
  refine ⟨ty, ?_⟩
  repeat walk_at "e"
  refine lk_add_sh sn (sh_lit (by decide +kernel)) (by decide) fun q11 => ?_
  repeat walk_at "e"
  refine lk_add_sh q11 sn (by decide) fun q12 => ?_
  repeat walk_at "e"
  refine glk_some (d := .non) (st := (st2 ++ [Cel.lst S2]).set st2.length (.lst (S2 ++ [D.str (near ++ Str.ofString ".1 ." ++ near)]))) ?_ ?_
  · show (match (st2 ++ [Cel.lst S2])[st2.length]? with | some (.lst es) => if es.length < sizeLine then some (D.non, (st2 ++ [Cel.lst S2]).set st2.length (.lst (es ++ [D.str (near ++ Str.ofString ".1 ." ++ near)]))) else none | _ => none) = _
    rw [hc]
    exact if_pos (Nat.lt_of_lt_of_le (by omega) (le_line (n := 100) (by decide)))
  have hc4 := get_set (c' := .lst (S2 ++ [D.str (near ++ Str.ofString ".1 ." ++ near)])) hc
  have D4 := D3.set (.lst (S2 ++ [D.str (near ++ Str.ofString ".1 ." ++ near)])) cn cm
  have F4 : Fr n m st ((st2 ++ [Cel.lst S2]).set st2.length (.lst (S2 ++ [D.str (near ++ Str.ofString ".1 ." ++ near)]))) := fun j c h1 h2 h => get_ne (F3 j c h1 h2 h) (by have := nl h; omega)
  have fit3 : ∀ d ∈ S2 ++ [D.str (near ++ Str.ofString ".1 ." ++ near)], Fit d := fun d hd => by
    rcases List.mem_append.mp hd with hd | hd
    · exact fit2 d hd
    · obtain rfl := List.mem_singleton.mp hd; exact q12.fit (by decide)
  have len3 : (S2 ++ [D.str (near ++ Str.ofString ".1 ." ++ near)]).length ≤ 21 := by rw [List.length_append, List.length_singleton]; omega
  generalize (st2 ++ [Cel.lst S2]).set st2.length (.lst (S2 ++ [D.str (near ++ Str.ofString ".1 ." ++ near)])) = st4 at hc4 D4 F4 ⊢
  generalize S2 ++ [D.str (near ++ Str.ofString ".1 ." ++ near)] = S3 at hc4 fit3 len3 ⊢
  repeat walk_at "e"
  refine lk_add_sh sn (sh_lit (by decide +kernel)) (by decide) fun q13 => ?_
  repeat walk_at "e"
  refine lk_add_sh sf (sh_lit (by decide +kernel)) (by decide) fun q14 => ?_
  repeat walk_at "e"
  refine lk_add_sh (sh_lit (by decide +kernel)) sn (by decide) fun q15 => ?_
  repeat walk_at "e"
  refine lk_add_sh sn sd (by decide) fun q16 => ?_
  repeat walk_at "e"
  refine lk_add_sh q16 sn (by decide) fun q17 => ?_
  repeat walk_at "e"
  refine lk_add_sh q17 (sh_lit (by decide +kernel)) (by decide) fun q18 => ?_
  repeat walk_at "e"
  refine lk_add_cell hc4 (le_line (by simp only [List.length_cons, List.length_nil]; omega)) ?_
  have fit4 : ∀ d ∈ S3 ++ [D.str (near ++ Str.ofString "\n"), .str (far ++ Str.ofString "\n"), .str (Str.ofString " " ++ near), .str (near ++ Str.ofString "." ++ near ++ Str.ofString ".1")], Fit d := fun d hd => by
    rcases List.mem_append.mp hd with hd | hd
    · exact fit3 d hd
    have : d = .str (near ++ Str.ofString "\n") ∨ d = .str (far ++ Str.ofString "\n") ∨ d = .str (Str.ofString " " ++ near) ∨ d = .str (near ++ Str.ofString "." ++ near ++ Str.ofString ".1") := by simpa using hd
    rcases this with rfl | rfl | rfl | rfl
    · exact q13.fit (by decide)
    · exact q14.fit (by decide)
    · exact q15.fit (by decide)
    · exact q18.fit (by decide)
  have len4 : (S3 ++ [D.str (near ++ Str.ofString "\n"), .str (far ++ Str.ofString "\n"), .str (Str.ofString " " ++ near), .str (near ++ Str.ofString "." ++ near ++ Str.ofString ".1")]).length ≤ 30 := by
    rw [List.length_append]; simp only [List.length_cons, List.length_nil]; omega
  generalize S3 ++ [D.str (near ++ Str.ofString "\n"), .str (far ++ Str.ofString "\n"), .str (Str.ofString " " ++ near), .str (near ++ Str.ofString "." ++ near ++ Str.ofString ".1")] = S4 at fit4 len4 ⊢
  repeat walk_at "e"
  refine lk_add_sh sn sd (by decide) fun q19 => ?_
  refine ok_op ?_
  refine ok_c ?_
  refine ok_c ?_
  refine lk_mul9 (by decide) fun M1 n40 => ?_
  refine lk_add_sh q19 n40 (by decide) fun q20 => ?_
  repeat walk_at "e"
  refine lk_add_sh q20 sd (by decide) fun q21 => ?_
  repeat walk_at "e"
  refine lk_add_sh q21 sn (by decide) fun q22 => ?_
  repeat walk_at "e"
  refine lk_add_sh sn sd (by decide) fun q23 => ?_
  refine ok_op ?_
  refine ok_c ?_
  refine ok_c ?_
  refine lk_mul9 (by decide) fun M2 n41 => ?_
  refine lk_add_sh q23 n41 (by decide) fun q24 => ?_
  repeat walk_at "e"
  refine lk_add_sh q24 sd (by decide) fun q25 => ?_
  repeat walk_at "e"
  refine lk_add_sh q25 sn (by decide) fun q26 => ?_
  repeat walk_at "e"
  refine lk_add_lst (le_line (by simp only [List.length_cons, List.length_nil]; omega)) ?_
  generalize hA : near ++ Str.ofString "." ++ M1 ++ Str.ofString "." ++ near = A at q22 ⊢
  generalize hB : near ++ Str.ofString "." ++ M2 ++ Str.ofString "." ++ near = B at q26 ⊢
  have fit5 : ∀ d ∈ S4 ++ [D.str A, .str B], Fit d := fun d hd => by
    rcases List.mem_append.mp hd with hd | hd
    · exact fit4 d hd
    have : d = .str A ∨ d = .str B := by simpa using hd
    rcases this with rfl | rfl
    · exact q22.fit (by decide)
    · exact q26.fit (by decide)
  have len5 : (S4 ++ [D.str A, .str B]).length ≤ 40 := by
    rw [List.length_append]; simp only [List.length_cons, List.length_nil]; omega
  generalize S4 ++ [D.str A, .str B] = S5 at fit5 len5 ⊢
  have b1 : Bx 1000 0 0 (.str near) := Bx.str sn.a (by have := sn.l; omega)
  have b2 : Bx 1000 0 0 (.str far) := Bx.str sf.a (by have := sf.l; omega)
  repeat walk_at "e"
  refine (odd_gen b1 (by decide) (by decide) D4 (by omega)).to ?_
  rintro o1 st5 ⟨bo1, D5, F5⟩
  repeat walk_at "e"
  refine (odd_gen b2 (by decide) (by decide) D5 (by omega)).to ?_
  rintro o2 st6 ⟨bo2, D6, F6⟩
  have r2 := repl (z := ".0") (by decide +kernel)
  have r3 := repl (z := "..") (by decide +kernel)
  repeat walk_at "e"
  refine ⟨r2.1, ?_⟩
  repeat walk_at "e"
  refine ⟨r3.1, ?_⟩
  repeat walk_at "e"
  refine lk_add_lst (le_line (by simp only [List.length_cons, List.length_nil]; omega)) ?_
  generalize Txt.replace far (Str.ofString ".") (Str.ofString ".0") = A2 at r2 ⊢
  generalize Txt.replace far (Str.ofString ".") (Str.ofString "..") = B2 at r3 ⊢
  have fit6 : ∀ d ∈ S5 ++ [o1, o2, .str A2, .str B2], Fit d := fun d hd => by
    rcases List.mem_append.mp hd with hd | hd
    · exact fit5 d hd
    have : d = o1 ∨ d = o2 ∨ d = .str A2 ∨ d = .str B2 := by simpa using hd
    rcases this with rfl | rfl | rfl | rfl
    · exact bo1.mono (by decide) (by decide) (by decide)
    · exact bo2.mono (by decide) (by decide) (by decide)
    · exact r2.2.fit (by decide)
    · exact r3.2.fit (by decide)
  have len6 : (S5 ++ [o1, o2, .str A2, .str B2]).length ≤ 50 := by
    rw [List.length_append]; simp only [List.length_cons, List.length_nil]; omega
  generalize S5 ++ [o1, o2, .str A2, .str B2] = S6 at fit6 len6 ⊢
  repeat walk_at "e"
  refine lk_some (a := S6) rfl ?_
  refine all_right (by omega) fit6 (by omega) (by show (4 : Nat) < 5; decide) ?_
  repeat walk_at "e"
  exact ⟨D6.more (by omega), (F4.trans F5).trans F6⟩
end Lw

namespace Lw
open PySem PySem.Spec L2 Pd
local macro_rules | `(tactic| walk_at "d") => `(tactic| first
  | with_reducible refine sk_seq ?_ | with_reducible refine sk_set ?_ | with_reducible refine sk_ite ?_ | with_reducible refine sk_ret ?_ | with_reducible refine sk_nil ?_ | with_reducible refine sk_expr ?_
  | with_reducible refine sk_par ?_ | with_reducible refine sk_asg ?_ | with_reducible refine sk_setIx ?_ | with_reducible refine sk_star ?_ | with_reducible refine sk_for ?_ | with_reducible refine sk_retN ?_
  | with_reducible refine sk_break ?_ | with_reducible refine sk_cont ?_
  | ((with_reducible refine ok_var (d := ?d) ?h ?_); (case h => exact rfl)) | with_reducible refine ok_c ?_ | with_reducible refine ok_nil ?_ | with_reducible refine ok_cons ?_ | with_reducible refine ok_op ?_
  | with_reducible refine ok_opC ?_ | with_reducible refine ok_un ?_ | with_reducible refine ok_unC ?_ | with_reducible refine ok_not ?_ | with_reducible refine ok_and ?_ | with_reducible refine ok_or ?_
  | with_reducible refine ok_chain ?_ | with_reducible refine ok_ite ?_ | with_reducible refine ok_blt ?_ | with_reducible refine ok_call ?_ | with_reducible refine ok_oNone ?_ | with_reducible refine ok_sl ?_
  | with_reducible refine ok_dnew ?_ | with_reducible refine ok_dnewC ?_ | with_reducible refine ok_B ?_ | with_reducible refine ok_tAnd ?_ | with_reducible refine ok_tOr ?_ | with_reducible refine ok_tNot ?_
  | with_reducible refine ok_tYes ?_ | with_reducible refine ok_iAny ?_ | with_reducible refine ok_lc ?_ | with_reducible refine ok_lcC ?_
  | with_reducible refine blk_bl ?_
  | with_reducible refine Cnd.t ?_ | with_reducible refine Cnd.f ?_ | with_reducible refine Cnd.nt ?_ | with_reducible refine Cnd.nf ?_
  | with_reducible refine lk_add_int ?_ | with_reducible refine lk_sub_int ?_ | with_reducible refine lk_lt_int ?_ | with_reducible refine lk_le_int ?_ | with_reducible refine lk_gt_int ?_ | with_reducible refine lk_ge_int ?_
  | (with_reducible refine ok_tup ?_) | (with_reducible refine ok_lst ?_) | (with_reducible refine ok_lstC ?_)
  | (with_reducible refine ok_mt ?_) | (with_reducible refine ok_repl ?_)
  | (with_reducible refine ok_neg ?_) | (with_reducible refine ok_oSome ?_)
  | (with_reducible refine ok_iRng1 ?_) | (with_reducible refine ok_iRng2 ?_)
  | (with_reducible refine ⟨_, rfl, ?_⟩)
  | ((with_reducible refine And.intro ?h ?_); (case h => first | exact Eq.refl _ | decide)))
local macro_rules | `(tactic| walk_at "e") => `(tactic| first
  | walk_at "d"
  | with_reducible refine lk_isi_str (by assumption) ?_ | with_reducible refine lk_isi_int (by assumption) ?_ | with_reducible refine lk_isi_bool (by assumption) ?_ | with_reducible refine lk_isi_tuple (by assumption) ?_
  | with_reducible refine lk_eq_str ?_ | with_reducible refine lk_ne_str ?_ | with_reducible refine lk_eq_int ?_ | with_reducible refine lk_ne_int ?_ | with_reducible refine lk_eq_nil ?_ | with_reducible refine lk_ne_nil ?_
  | with_reducible refine lk_eq_tnil ?_ | with_reducible refine lk_ne_tnil ?_ | with_reducible refine lk_in_strs rfl ?_ | with_reducible refine lk_nin_strs rfl ?_
  | ((with_reducible refine lk_ixt (a := ?a) ?h ?_); (case h => exact rfl)) | ((with_reducible refine lk_ixl (a := ?a) ?h ?_); (case h => exact rfl))
  | with_reducible refine glk_len_tup ?_ | with_reducible refine glk_len_lst ?_ | with_reducible refine glk_len_str (le_line (by omega)) ?_
  | with_reducible refine ⟨le_line (by (simp only [List.length_cons, List.length_nil]; omega)), ?_⟩)
def fitB (d : D) : Bool := asc d && decide (wt d ≤ 5000) && decide (mx d ≤ 10 ^ 40) && decide (dp d ≤ 5)
theorem fit_of {ds : List D} (h : (ds.all fitB) = true) : ∀ d ∈ ds, Fit d := fun d hd => by
  have q := List.all_eq_true.mp h d hd
  unfold fitB at q
  simp only [Bool.and_eq_true, decide_eq_true_eq] at q
  exact ⟨q.1.1.1, by omega, q.1.2, by omega⟩
theorem wtL_rep (xs : List D) : ∀ n : Nat, wtL (List.replicate n xs).flatten = n * wtL xs
  | 0 => by simp [wtL]
  | n + 1 => by rw [List.replicate_succ, List.flatten_cons, wtL_app, wtL_rep xs n, Nat.succ_mul]; omega
theorem lk_mul_tup {xs : List D} {k : Int} {st : Sto} {Q : D → Prop} (h1 : xs.isEmpty = false ∧ 2 ≤ k ∧ k ≤ 1000 ∧ xs.length ≤ 1000) (h : ∀ ys, (∀ y ∈ ys, y ∈ xs) → wtL ys = k.toNat * wtL xs → ys.length = k.toNat * xs.length → Q (.tup ys)) : Lk (mulD (.tup xs) (.int k) st) Q := by
  refine lk_some (a := D.tup (List.replicate k.toNat xs).flatten) (if_pos h1) (h _ (fun y hy => ?_) (wtL_rep xs _) (by simp))
  obtain ⟨l, hl, hy⟩ := List.mem_flatten.mp hy
  rw [(List.mem_replicate.mp hl).2] at hy
  exact hy
theorem lk_add_fit {xs ys : List D} {a : Nat} {st : Sto} {Q : D → Prop} (hx : ∀ d ∈ xs, Fit d) (ha : xs.length ≤ a) (hy : (ys.all fitB) = true) (hb : a + ys.length ≤ 1000) (h : ∀ zs, (∀ d ∈ zs, Fit d) → zs.length ≤ a + ys.length → Q (.lst zs)) : Lk (addD (.lst xs) (.lst ys) st) Q :=
  lk_add_lst (le_line (by omega)) (h _ (fun d hd => by
    rcases List.mem_append.mp hd with z | z
    · exact hx d z
    · exact fit_of hy d z) (by rw [List.length_append]; omega))
abbrev LV : Nat := 200
theorem chain_step {last chain : D} {i : Nat} (h : Bx (700 * i + 600) (10 ^ 40) (i + 1) chain) : Bx (700 * (i + 1) + 600) (10 ^ 40) (i + 1 + 1) (.tup [.str "fun", .str "run", .tup [.str "world", .int 0], chain]) := by
  have l1 : (Str.ofString "fun").length = 3 := by decide +kernel
  have l2 : (Str.ofString "run").length = 3 := by decide +kernel
  have l3 : (Str.ofString "world").length = 5 := by decide +kernel
  refine Bx.tup2 (N := i + 1) (fun d hd => ?_) ?_ (Nat.le_refl _)
  · have : d = .str "fun" ∨ d = .str "run" ∨ d = .tup [.str "world", .int 0] ∨ d = chain := by simpa using hd
    rcases this with rfl | rfl | rfl | rfl
    · exact ⟨by decide +kernel, by simp only [mx]; omega, Nat.zero_le _⟩
    · exact ⟨by decide +kernel, by simp only [mx]; omega, Nat.zero_le _⟩
    · refine ⟨by decide +kernel, by decide +kernel, ?_⟩
      have : dp (.tup [.str "world", .int 0]) = 1 := by decide +kernel
      omega
    · exact ⟨h.a, h.m, h.n⟩
  · have := h.w
    simp only [wtL, wt, l1, l2, l3]
    omega
theorem seg1 {x0 x1 x2 o3 o5 o6 o7 o8 o9 o10 : Option D} {y : Option D} {st1 : Sto} {rt : D → Sto → Prop} {bk ct : En → Sto → Prop} {er : ErP} : Sk ((sSet 4 (mLst (lCons (mC .non) (lCons (mC (.bl true)) (lCons (mC (.int 0)) (lCons (mC (.str "")) (lCons (mC (.str "at")) (lCons (mTup (lNil)) (lCons (mLst (lNil)) (lCons (mDnew) (lCons (mTup (lCons (mC (.str "at")) (lNil))) (lCons (mTup (lCons (mC (.str "at")) (lCons (mC (.int 0)) (lCons (mC (.int 0)) (lNil))))) (lCons (mTup (lCons (mC (.str "world")) (lCons (mC (.int 9)) (lNil)))) (lCons (mTup (lCons (mC (.str "world")) (lCons (mC (.int 10)) (lNil)))) (lCons (mTup (lCons (mC (.str "at")) (lCons (mOp powD (mC (.int 10)) (mC (.int 39))) (lNil)))) (lNil)))))))))))))))) [x0, x1, x2, o3, y, o5, o6, o7, o8, o9, o10, none] st1) ⟨fun en _ => ∃ T, en = [x0, x1, x2, o3, some (.lst T), o5, o6, o7, o8, o9, o10, none] ∧ (∀ d ∈ T, Fit d) ∧ T.length ≤ 13, rt, bk, ct, er⟩ := by
  refine sk_set ?_
  refine ok_lst ?_
  repeat walk_at "e"
  refine lk_pow (by decide) ?_
  repeat walk_at "e"
  exact ⟨fit_of (by decide +kernel), by simp only [List.length_cons, List.length_nil]; omega⟩
theorem lk_val {α : Type} {a : α} {Q : α → Prop} (h : Q a) : Lk (some a) Q := h
theorem seg2 {x0 x1 x2 o3 o5 o6 o7 o8 o9 o10 : Option D} {T0 : List D} (fit0 : ∀ d ∈ T0, Fit d) (len0 : T0.length ≤ 13) {st1 : Sto} {rt : D → Sto → Prop} {bk ct : En → Sto → Prop} {er : ErP} : Sk ((sSet 4 (mOp addD (mVar 4) (mLst (lCons (mTup (lCons (mC (.str "at")) (lCons (mC (.bl true)) (lNil)))) (lCons (mTup (lCons (mC (.str "world")) (lCons (mC (.bl false)) (lNil)))) (lCons (mTup (lCons (mC (.str "family")) (lCons (mC (.str "a")) (lCons (mTup (lNil)) (lNil))))) (lCons (mTup (lCons (mC (.str "family")) (lCons (mC (.str "a")) (lCons (mLst (lNil)) (lNil))))) (lCons (mTup (lCons (mC (.str "call")) (lCons (mC (.str "a")) (lNil)))) (lNil))))))))) [x0, x1, x2, o3, some (.lst T0), o5, o6, o7, o8, o9, o10, none] st1) ⟨fun en _ => ∃ T, en = [x0, x1, x2, o3, some (.lst T), o5, o6, o7, o8, o9, o10, none] ∧ (∀ d ∈ T, Fit d) ∧ T.length ≤ 18, rt, bk, ct, er⟩ := by
  refine sk_set ?_
  refine ok_op ?_
  refine ok_var rfl ?_
  refine ok_lst ?_
  repeat walk_at "e"
  exact lk_add_fit (a := 13) fit0 len0 (by decide +kernel) (by decide) fun S1 fit1 len1 => ⟨S1, rfl, fit1, len1⟩
set_option maxHeartbeats 1000000 in
theorem seg3 {x0 x1 x2 o3 o5 o6 o7 o8 o9 o10 : Option D} {S1 : List D} (fit1 : ∀ d ∈ S1, Fit d) (len1 : S1.length ≤ 18) {st1 : Sto} {rt : D → Sto → Prop} {bk ct : En → Sto → Prop} {er : ErP} : Sk ((sSeq (sSet 4 (mOpC catD (mVar 4) (mLst (lCons (mTup (lCons (mC (.str "give")) (lCons (mC (.str "run")) (lCons (mTup (lCons (mC (.str "at")) (lCons (mC (.int 0)) (lNil)))) (lCons (mTup (lCons (mC (.str "at")) (lCons (mC (.int 0)) (lNil)))) (lNil)))))) (lCons (mTup (lCons (mC (.str "give")) (lCons (mTup (lCons (mC (.str "at")) (lCons (mC (.int 0)) (lNil)))) (lCons (mTup (lCons (mC (.str "at")) (lCons (mC (.int 0)) (lNil)))) (lNil))))) (lNil)))))) (sSeq (sExpr (mMt "list" appendG (mVar 4) (lCons (mTup (lCons (mC (.str "shape")) (lCons (mC (.str "a")) (lCons (mC (.str "b.1.c")) (lCons (mTup (lNil)) (lNil)))))) (lNil)))) (sSet 4 (mOp addD (mVar 4) (mLst (lCons (mTup (lCons (mC (.str "hole")) (lCons (mC (.str "a.1.b")) (lNil)))) (lCons (mTup (lCons (mC (.str "open")) (lCons (mC (.str "a")) (lCons (mTup (lNil)) (lCons (mTup (lCons (mC (.str "world")) (lCons (mC (.int 0)) (lNil)))) (lNil)))))) (lCons (mTup (lCons (mC (.str "take")) (lNil))) (lCons (mTup (lCons (mC (.str "to")) (lCons (mC (.str "run")) (lCons (mTup (lCons (mC (.str "at")) (lCons (mC (.int 0)) (lNil)))) (lNil))))) (lNil)))))))))) [x0, x1, x2, o3, some (.lst S1), o5, o6, o7, o8, o9, o10, none] st1) ⟨fun en _ => ∃ T, en = [x0, x1, x2, o3, some (.lst T), o5, o6, o7, o8, o9, o10, none] ∧ (∀ d ∈ T, Fit d) ∧ T.length ≤ 25, rt, bk, ct, er⟩ := by
  refine sk_seq ?_
  repeat walk_at "e"
  have fit2 : ∀ d ∈ [D.tup [.str "give", .str "run", .tup [.str "at", .int 0], .tup [.str "at", .int 0]], .tup [.str "give", .tup [.str "at", .int 0], .tup [.str "at", .int 0]]], Fit d := fit_of (by decide +kernel)
  refine lk_cat_lst (le_line (by simp only [List.length_cons, List.length_nil]; omega)) ?_
  have fit3 : ∀ d ∈ S1 ++ [D.tup [.str "give", .str "run", .tup [.str "at", .int 0], .tup [.str "at", .int 0]], .tup [.str "give", .tup [.str "at", .int 0], .tup [.str "at", .int 0]]], Fit d := fun d hd => by
    rcases List.mem_append.mp hd with z | z
    · exact fit1 d z
    · exact fit2 d z
  have len3 : (S1 ++ [D.tup [.str "give", .str "run", .tup [.str "at", .int 0], .tup [.str "at", .int 0]], .tup [.str "give", .tup [.str "at", .int 0], .tup [.str "at", .int 0]]]).length ≤ 20 := by
    rw [List.length_append]; simp only [List.length_cons, List.length_nil]; omega
  generalize S1 ++ [D.tup [.str "give", .str "run", .tup [.str "at", .int 0], .tup [.str "at", .int 0]], .tup [.str "give", .tup [.str "at", .int 0], .tup [.str "at", .int 0]]] = S2 at fit3 len3 ⊢
  refine ⟨S2, rfl, ?_⟩
  have hc : (st1 ++ [Cel.lst S2])[st1.length]? = some (.lst S2) := get_new
  have ty : tyM "list" (st1 ++ [Cel.lst S2]) (.cell st1.length) = true := by
    show (match (st1 ++ [Cel.lst S2])[st1.length]? with | some (.lst _) => decide ("list" = "list") | some (.dct _ _) => decide ("list" = "dict") | _ => false) = true
    rw [hc]; rfl
  repeat walk_at "e"
  refine ⟨ty, ?_⟩
  repeat walk_at "e"
  refine glk_some (d := .non) (st := (st1 ++ [Cel.lst S2]).set st1.length (.lst (S2 ++ [D.tup [.str "shape", .str "a", .str "b.1.c", .tup []]]))) ?_ ?_
  · show (match (st1 ++ [Cel.lst S2])[st1.length]? with | some (.lst es) => if es.length < sizeLine then some (D.non, (st1 ++ [Cel.lst S2]).set st1.length (.lst (es ++ [D.tup [.str "shape", .str "a", .str "b.1.c", .tup []]]))) else none | _ => none) = _
    rw [hc]
    exact if_pos (Nat.lt_of_lt_of_le (by omega) (le_line (n := 100) (by decide)))
  have hc4 := get_set (c' := .lst (S2 ++ [D.tup [.str "shape", .str "a", .str "b.1.c", .tup []]])) hc
  have fit4 : ∀ d ∈ S2 ++ [D.tup [.str "shape", .str "a", .str "b.1.c", .tup []]], Fit d := fun d hd => by
    rcases List.mem_append.mp hd with z | z
    · exact fit3 d z
    · exact fit_of (ds := [D.tup [.str "shape", .str "a", .str "b.1.c", .tup []]]) (by decide +kernel) d z
  have len4 : (S2 ++ [D.tup [.str "shape", .str "a", .str "b.1.c", .tup []]]).length ≤ 21 := by rw [List.length_append, List.length_singleton]; omega
  generalize (st1 ++ [Cel.lst S2]).set st1.length (.lst (S2 ++ [D.tup [.str "shape", .str "a", .str "b.1.c", .tup []]])) = st4 at hc4 ⊢
  generalize S2 ++ [D.tup [.str "shape", .str "a", .str "b.1.c", .tup []]] = S4 at hc4 fit4 len4 ⊢
  repeat walk_at "e"
  refine lk_add_cell hc4 (le_line (by simp only [List.length_cons, List.length_nil]; omega)) ?_
  have fit5 : ∀ d ∈ S4 ++ [D.tup [.str "hole", .str "a.1.b"], .tup [.str "open", .str "a", .tup [], .tup [.str "world", .int 0]], .tup [.str "take"], .tup [.str "to", .str "run", .tup [.str "at", .int 0]]], Fit d := fun d hd => by
    rcases List.mem_append.mp hd with z | z
    · exact fit4 d z
    · exact fit_of (ds := [D.tup [.str "hole", .str "a.1.b"], .tup [.str "open", .str "a", .tup [], .tup [.str "world", .int 0]], .tup [.str "take"], .tup [.str "to", .str "run", .tup [.str "at", .int 0]]]) (by decide +kernel) d z
  have len5 : (S4 ++ [D.tup [.str "hole", .str "a.1.b"], .tup [.str "open", .str "a", .tup [], .tup [.str "world", .int 0]], .tup [.str "take"], .tup [.str "to", .str "run", .tup [.str "at", .int 0]]]).length ≤ 25 := by
    rw [List.length_append]; simp only [List.length_cons, List.length_nil]; omega
  generalize S4 ++ [D.tup [.str "hole", .str "a.1.b"], .tup [.str "open", .str "a", .tup [], .tup [.str "world", .int 0]], .tup [.str "take"], .tup [.str "to", .str "run", .tup [.str "at", .int 0]]] = S5 at fit5 len5 ⊢
  repeat walk_at "e"
  exact ⟨fit5, len5⟩
theorem seg4 {x0 x1 x2 o3 o5 o6 o7 o8 o9 o10 : Option D} {T0 : List D} (fit0 : ∀ d ∈ T0, Fit d) (len0 : T0.length ≤ 25) {st1 : Sto} {rt : D → Sto → Prop} {bk ct : En → Sto → Prop} {er : ErP} : Sk ((sSet 4 (mOp addD (mVar 4) (mLst (lCons (mTup (lCons (mTup (lCons (mC (.str "at")) (lCons (mC (.int 0)) (lNil)))) (lNil))) (lCons (mTup (lCons (mC (.str "open")) (lCons (mC (.int 0)) (lNil)))) (lCons (mTup (lCons (mC (.str "due")) (lNil))) (lNil))))))) [x0, x1, x2, o3, some (.lst T0), o5, o6, o7, o8, o9, o10, none] st1) ⟨fun en _ => ∃ T, en = [x0, x1, x2, o3, some (.lst T), o5, o6, o7, o8, o9, o10, none] ∧ (∀ d ∈ T, Fit d) ∧ T.length ≤ 28, rt, bk, ct, er⟩ := by
  refine sk_set ?_
  refine ok_op ?_
  refine ok_var rfl ?_
  refine ok_lst ?_
  repeat walk_at "e"
  exact lk_add_fit (a := 25) fit0 len0 (by decide +kernel) (by decide) fun S1 fit1 len1 => ⟨S1, rfl, fit1, len1⟩
set_option maxHeartbeats 1000000 in
theorem seg5 {x0 x1 x2 o3 o5 o6 o7 o8 o9 o10 : Option D} {S6 : List D} (fit6 : ∀ d ∈ S6, Fit d) (len6 : S6.length ≤ 28) {st1 : Sto} {rt : D → Sto → Prop} {bk ct : En → Sto → Prop} {er : ErP} {sm : SM} (esm : sm = sFor (iAny (mLst (lCons (mTup (lCons (mC (.str "at")) (lCons (mC (.int 0)) (lNil)))) (lCons (mTup (lCons (mC (.str "at")) (lCons (mNeg (mC (.int 1))) (lNil)))) (lCons (mTup (lCons (mC (.str "at")) (lCons (mC (.bl true)) (lNil)))) (lNil)))))) (gmName 5) (sSeq (sSet 8 (mVar 5)) (sSeq (sFor (iRng1 (mC (.int 70))) (gmName 9) (sSet 8 (mTup (lCons (mC (.str "fun")) (lCons (mC (.str "run")) (lCons (mTup (lCons (mC (.str "world")) (lCons (mC (.int 0)) (lNil)))) (lCons (mVar 8) (lNil)))))))) (sSet 4 (mOp addD (mVar 4) (mLst (lCons (mVar 8) (lCons (mTup (lCons (mC (.str "call")) (lCons (mC (.str "a")) (lCons (mOp addD (mOp mulD (mTup (lCons (mTup (lCons (mC (.str "at")) (lCons (mC (.int 0)) (lNil)))) (lNil))) (mC (.int 449))) (mTup (lCons (mVar 5) (lNil)))) (lNil))))) (lNil))))))))) : Sk (sm [x0, x1, x2, o3, some (.lst S6), o5, o6, o7, o8, o9, o10, none] st1) ⟨fun en _ => ∃ T o5 o8 o9, en = [x0, x1, x2, o3, some (.lst T), o5, o6, o7, o8, o9, o10, none] ∧ (∀ d ∈ T, Fit d) ∧ T.length ≤ 40, rt, bk, ct, er⟩ := by
  subst esm
  with_reducible refine sk_for ?_
  with_reducible refine ok_iAny ?_
  with_reducible refine ok_lst ?_
  repeat walk_at "e"
  ((with_reducible refine lk_some (a := ?aa4) ?hh4 ?_); (case hh4 => exact rfl))
  have hlast : ∀ d ∈ [D.tup [.str "at", .int 0], .tup [.str "at", .int (-1)], .tup [.str "at", .bl true]], Bx 600 (10 ^ 40) 1 d := fun d hd => by
    have q : ([D.tup [.str "at", .int 0], .tup [.str "at", .int (-1)], .tup [.str "at", .bl true]].all fun d => asc d && decide (wt d ≤ 600) && decide (mx d ≤ 10 ^ 40) && decide (dp d ≤ 1)) = true := by decide +kernel
    have q := List.all_eq_true.mp q d hd
    simp only [Bool.and_eq_true, decide_eq_true_eq] at q
    exact ⟨q.1.1.1, q.1.1.2, q.1.2, q.2⟩
  have hlen : ([D.tup [.str "at", .int 0], .tup [.str "at", .int (-1)], .tup [.str "at", .bl true]] : List D).length ≤ 3 := by show 3 ≤ 3; decide
  generalize [D.tup [.str "at", .int 0], .tup [.str "at", .int (-1)], .tup [.str "at", .bl true]] = LL at hlast hlen ⊢
  refine sk_forLoop (I := fun rest en _ => (∃ T o5 o8 o9, en = [x0, x1, x2, o3, some (.lst T), o5, o6, o7, o8, o9, o10, none] ∧ (∀ d ∈ T, Fit d) ∧ T.length + 2 * rest.length ≤ 40) ∧ ∀ d ∈ rest, Bx 600 (10 ^ 40) 1 d)  (fun en st' h => ?_) (fun d ds en st' h => ?_) _ _ _ ⟨⟨S6, o5, o8, o9, rfl, fit6, by omega⟩, hlast⟩
  · obtain ⟨⟨T, o5, o8, o9, rfl, f, l⟩, _⟩ := h
    exact ⟨T, o5, o8, o9, rfl, f, by rw [List.length_nil] at l; omega⟩
  with_reducible refine Exists.elim h.1 fun T h1 => Exists.elim h1 fun o5 h2 => Exists.elim h2 fun o8 h3 => Exists.elim h3 fun o9 h4 => ?_
  have hr := h.2
  have f := h4.2.1
  have l := h4.2.2
  have ee := h4.1
  subst ee
  rw [List.length_cons] at l
  have bl := hr d (.head _)
  have hg : gmName 5 d [x0, x1, x2, o3, some (.lst T), o5, o6, o7, o8, o9, o10, none] st' = some [x0, x1, x2, o3, some (.lst T), some d, o6, o7, o8, o9, o10, none] := rfl
  with_reducible refine Eq.mpr (congrFun (congrArg Lk hg) _) ?_
  with_reducible refine lk_val ?_
  with_reducible refine sk_seq ?_
  with_reducible refine sk_set ?_
  ((with_reducible refine ok_var (d := ?dd28) ?hh28 ?_); (case hh28 => exact rfl))
  with_reducible refine sk_cut (fun en _ => ∃ ch o9, Bx (700 * 70 + 600) (10 ^ 40) (70 + 1) ch ∧ en = [x0, x1, x2, o3, some (.lst T), some d, o6, o7, some ch, o9, o10, none]) ?_ ?_
  · with_reducible refine sk_for ?_
    with_reducible refine ok_iRng1 ?_
    with_reducible refine ok_c ?_
    refine ⟨70, rfl, by decide, by decide, ?_⟩
    with_reducible refine sk_forLoop (I := fun rest en _ => ∃ ch o9, rest.length ≤ 70 ∧ Bx (700 * (70 - rest.length) + 600) (10 ^ 40) (70 - rest.length + 1) ch ∧ en = [x0, x1, x2, o3, some (.lst T), some d, o6, o7, some ch, o9, o10, none])  ?hA ?hB _ _ _ ?hC
    case hC => exact ⟨d, o9, by rw [rng_len]; decide, by rw [rng_len]; exact bl.mono (by decide) (Nat.le_refl _) (by decide), rfl⟩
    case hA =>
      intro en st' h
      obtain ⟨ch, o9, _, hb, rfl⟩ := h
      exact ⟨ch, o9, hb, rfl⟩
    intro x xs en st' h
    obtain ⟨ch, o9', hx, hb, rfl⟩ := h
    rw [List.length_cons] at hx hb
    ((with_reducible refine lk_some (a := ?aa43) ?hh43 ?_); (case hh43 => exact rfl))
    repeat walk_at "e"
    have q := chain_step (last := d) (i := 70 - (xs.length + 1)) hb
    have e1 : 70 - (xs.length + 1) + 1 = 70 - xs.length := by omega
    rw [e1] at q
    exact ⟨_, _, by omega, q, rfl⟩
  intro en7 st7 h
  with_reducible refine Exists.elim h fun ch h1 => Exists.elim h1 fun o9' h2 => ?_
  have hb := h2.1
  have ee := h2.2
  subst ee
  with_reducible refine sk_set ?_
  with_reducible refine ok_op ?_
  ((with_reducible refine ok_var (d := ?dd56) ?hh56 ?_); (case hh56 => exact rfl))
  with_reducible refine ok_lst ?_
  with_reducible refine ok_cons ?_
  ((with_reducible refine ok_var (d := ?dd59) ?hh59 ?_); (case hh59 => exact rfl))
  with_reducible refine ok_cons ?_
  with_reducible refine ok_tup ?_
  with_reducible refine ok_cons ?_
  with_reducible refine ok_c ?_
  with_reducible refine ok_cons ?_
  with_reducible refine ok_c ?_
  with_reducible refine ok_cons ?_
  with_reducible refine ok_op ?_
  with_reducible refine ok_op ?_
  repeat walk_at "e"
  ((with_reducible refine lk_mul_tup ?h1 ?h2); (case h1 => exact ⟨rfl, by decide, by decide, by decide⟩)); intro ys hy hw hl
  have hw : wtL ys = 449 * wtL [D.tup [.str "at", .int 0]] := hw
  have hl : ys.length = 449 * 1 := hl
  have w1 : wtL [D.tup [.str "at", .int 0]] ≤ 620 := by decide +kernel
  with_reducible refine ok_tup ?_
  with_reducible refine ok_cons ?_
  ((with_reducible refine ok_var (d := ?dd76) ?hh76 ?_); (case hh76 => exact rfl))
  refine ok_nil ?_
  refine ⟨le_line (by show 1 ≤ 16777216; decide), ?_⟩
  refine lk_add_tup (le_line (by rw [List.length_singleton]; omega)) ?_
  refine ok_nil ?_
  refine ⟨le_line (by show 3 ≤ 16777216; decide), ?_⟩
  refine ok_nil ?_
  refine ⟨le_line (by show 2 ≤ 16777216; decide), ?_⟩
  have bcall : Fit (.tup [.str "call", .str "a", .tup (ys ++ [d])]) := by
    have inner : Bx 300000 (10 ^ 40) 2 (.tup (ys ++ [d])) := by
      refine Bx.tup2 (N := 1) (fun y hy' => ?_) ?_ (Nat.le_refl _)
      · rcases List.mem_append.mp hy' with z | z
        · obtain rfl := List.mem_singleton.mp (hy y z)
          exact ⟨by decide +kernel, by decide +kernel, by decide +kernel⟩
        · obtain rfl := List.mem_singleton.mp z
          exact ⟨bl.a, bl.m, bl.n⟩
      · have := bl.w
        generalize wtL [D.tup [.str "at", .int 0]] = WW at hw w1; rw [wtL_app, hw, wtL_cons, wtL_nil]
        omega
    refine Bx.tup2 (N := 2) (fun y hy' => ?_) ?_ (by decide)
    · have : y = .str "call" ∨ y = .str "a" ∨ y = .tup (ys ++ [d]) := by simpa using hy'
      rcases this with rfl | rfl | rfl
      · exact ⟨by decide +kernel, by simp only [mx]; omega, Nat.zero_le _⟩
      · exact ⟨by decide +kernel, by simp only [mx]; omega, Nat.zero_le _⟩
      · exact ⟨inner.a, inner.m, inner.n⟩
    · have := inner.w
      have l1 : (Str.ofString "call").length = 4 := by decide +kernel
      have l2 : (Str.ofString "a").length = 1 := by decide +kernel
      rw [wtL_cons, wtL_cons, wtL_cons, wtL_nil, wt_str, wt_str, l1, l2]
      omega
  generalize D.tup [.str "call", .str "a", .tup (ys ++ [d])] = CC at bcall ⊢
  refine lk_add_lst (le_line (by simp only [List.length_cons, List.length_nil]; omega)) ?_
  refine ⟨⟨T ++ [ch, CC], _, _, _, rfl, fun y hy' => ?_, by rw [List.length_append]; simp only [List.length_cons, List.length_nil]; omega⟩, fun y hy' => hr y (.tail _ hy')⟩
  rcases List.mem_append.mp hy' with z | z
  · exact f y z
  · have : y = ch ∨ y = CC := by simpa using z
    rcases this with rfl | rfl
    · exact hb.mono (by decide) (Nat.le_refl _) (by decide)
    · exact bcall
theorem seg6 {x0 x1 x2 o3 o5 o6 o7 o8 o9 o10 : Option D} {T : List D} (fitT : ∀ d ∈ T, Fit d) (lenT : T.length ≤ 40) {st1 : Sto} {nx : En → Sto → Prop} {bk ct : En → Sto → Prop} {er : ErP} : Sk ((sRet (mOp eqD (mLc (iAny (mVar 4)) (gmName 11) (tmNot (mB (mCall (run 199 23) 1 (lCons (mVar 11) (lNil))))) (mVar 11) [11]) (mLst (lNil)))) [x0, x1, x2, o3, some (.lst T), o5, o6, o7, o8, o9, o10, none] st1) ⟨nx, fun d _ => d = .bl true, bk, ct, er⟩ := by
  refine sk_ret ?_
  refine ok_op ?_
  refine ok_lc ?_
  refine ok_iAny ?_
  refine ok_var rfl ?_
  refine lk_some (a := T) rfl ?_
  refine all_right (by decide) fitT (by omega) (by show (11 : Nat) < 12; decide) ?_
  refine ok_lst ?_
  refine ok_nil ?_
  refine ⟨le_line (by show 0 ≤ 16777216; decide), ?_⟩
  refine lk_eq_nil ?_
  rfl
theorem sk_seq3 {a b c r : SM} {en : En} {st : Sto} {S : SPost} (h : Sk ((sSeq (sSeq a (sSeq b c)) r) en st) S) : Sk ((sSeq a (sSeq b (sSeq c r))) en st) S := by
  have : (sSeq (sSeq a (sSeq b c)) r) en st = (sSeq a (sSeq b (sSeq c r))) en st := by
    unfold sSeq
    cases a en st with
    | nx e s => dsimp only; cases b e s with
      | nx e s => rfl
      | _ => rfl
    | _ => rfl
  rw [← this]; exact h
theorem tail7 {x0 x1 x2 o3 o5 o6 o7 o8 o9 o10 : Option D} {y : Option D} {st1 : Sto} {nx bk ct : En → Sto → Prop} {er : ErP} {sm : SM} (esm : sm = sSeq (sSet 4 (mLst (lCons (mC .non) (lCons (mC (.bl true)) (lCons (mC (.int 0)) (lCons (mC (.str "")) (lCons (mC (.str "at")) (lCons (mTup (lNil)) (lCons (mLst (lNil)) (lCons (mDnew) (lCons (mTup (lCons (mC (.str "at")) (lNil))) (lCons (mTup (lCons (mC (.str "at")) (lCons (mC (.int 0)) (lCons (mC (.int 0)) (lNil))))) (lCons (mTup (lCons (mC (.str "world")) (lCons (mC (.int 9)) (lNil)))) (lCons (mTup (lCons (mC (.str "world")) (lCons (mC (.int 10)) (lNil)))) (lCons (mTup (lCons (mC (.str "at")) (lCons (mOp powD (mC (.int 10)) (mC (.int 39))) (lNil)))) (lNil)))))))))))))))) (sSeq (sSet 4 (mOp addD (mVar 4) (mLst (lCons (mTup (lCons (mC (.str "at")) (lCons (mC (.bl true)) (lNil)))) (lCons (mTup (lCons (mC (.str "world")) (lCons (mC (.bl false)) (lNil)))) (lCons (mTup (lCons (mC (.str "family")) (lCons (mC (.str "a")) (lCons (mTup (lNil)) (lNil))))) (lCons (mTup (lCons (mC (.str "family")) (lCons (mC (.str "a")) (lCons (mLst (lNil)) (lNil))))) (lCons (mTup (lCons (mC (.str "call")) (lCons (mC (.str "a")) (lNil)))) (lNil))))))))) (sSeq (sSet 4 (mOpC catD (mVar 4) (mLst (lCons (mTup (lCons (mC (.str "give")) (lCons (mC (.str "run")) (lCons (mTup (lCons (mC (.str "at")) (lCons (mC (.int 0)) (lNil)))) (lCons (mTup (lCons (mC (.str "at")) (lCons (mC (.int 0)) (lNil)))) (lNil)))))) (lCons (mTup (lCons (mC (.str "give")) (lCons (mTup (lCons (mC (.str "at")) (lCons (mC (.int 0)) (lNil)))) (lCons (mTup (lCons (mC (.str "at")) (lCons (mC (.int 0)) (lNil)))) (lNil))))) (lNil)))))) (sSeq (sExpr (mMt "list" appendG (mVar 4) (lCons (mTup (lCons (mC (.str "shape")) (lCons (mC (.str "a")) (lCons (mC (.str "b.1.c")) (lCons (mTup (lNil)) (lNil)))))) (lNil)))) (sSeq (sSet 4 (mOp addD (mVar 4) (mLst (lCons (mTup (lCons (mC (.str "hole")) (lCons (mC (.str "a.1.b")) (lNil)))) (lCons (mTup (lCons (mC (.str "open")) (lCons (mC (.str "a")) (lCons (mTup (lNil)) (lCons (mTup (lCons (mC (.str "world")) (lCons (mC (.int 0)) (lNil)))) (lNil)))))) (lCons (mTup (lCons (mC (.str "take")) (lNil))) (lCons (mTup (lCons (mC (.str "to")) (lCons (mC (.str "run")) (lCons (mTup (lCons (mC (.str "at")) (lCons (mC (.int 0)) (lNil)))) (lNil))))) (lNil)))))))) (sSeq (sSet 4 (mOp addD (mVar 4) (mLst (lCons (mTup (lCons (mTup (lCons (mC (.str "at")) (lCons (mC (.int 0)) (lNil)))) (lNil))) (lCons (mTup (lCons (mC (.str "open")) (lCons (mC (.int 0)) (lNil)))) (lCons (mTup (lCons (mC (.str "due")) (lNil))) (lNil))))))) (sSeq (sFor (iAny (mLst (lCons (mTup (lCons (mC (.str "at")) (lCons (mC (.int 0)) (lNil)))) (lCons (mTup (lCons (mC (.str "at")) (lCons (mNeg (mC (.int 1))) (lNil)))) (lCons (mTup (lCons (mC (.str "at")) (lCons (mC (.bl true)) (lNil)))) (lNil)))))) (gmName 5) (sSeq (sSet 8 (mVar 5)) (sSeq (sFor (iRng1 (mC (.int 70))) (gmName 9) (sSet 8 (mTup (lCons (mC (.str "fun")) (lCons (mC (.str "run")) (lCons (mTup (lCons (mC (.str "world")) (lCons (mC (.int 0)) (lNil)))) (lCons (mVar 8) (lNil)))))))) (sSet 4 (mOp addD (mVar 4) (mLst (lCons (mVar 8) (lCons (mTup (lCons (mC (.str "call")) (lCons (mC (.str "a")) (lCons (mOp addD (mOp mulD (mTup (lCons (mTup (lCons (mC (.str "at")) (lCons (mC (.int 0)) (lNil)))) (lNil))) (mC (.int 449))) (mTup (lCons (mVar 5) (lNil)))) (lNil))))) (lNil))))))))) (sRet (mOp eqD (mLc (iAny (mVar 4)) (gmName 11) (tmNot (mB (mCall (run 199 23) 1 (lCons (mVar 11) (lNil))))) (mVar 11) [11]) (mLst (lNil))))))))))) : Sk (sm [x0, x1, x2, o3, y, o5, o6, o7, o8, o9, o10, none] st1) ⟨nx, fun d _ => d = .bl true, bk, ct, er⟩ := by
  subst esm
  with_reducible refine sk_cut _ seg1 ?_
  intro en2 st2 h2
  with_reducible refine Exists.elim h2 fun T2 h1 => ?_
  have f2 := h1.2.1
  have l2 := h1.2.2
  have ee := h1.1
  subst ee
  clear h2
  with_reducible refine sk_cut _ (seg2 f2 l2) ?_
  intro en3 st3 h3
  with_reducible refine Exists.elim h3 fun T3 h1 => ?_
  have f3 := h1.2.1
  have l3 := h1.2.2
  have ee := h1.1
  subst ee
  clear h3
  with_reducible refine sk_seq3 ?_
  with_reducible refine sk_cut _ (seg3 f3 l3) ?_
  intro en4 st4 h4
  with_reducible refine Exists.elim h4 fun T4 h1 => ?_
  have f4 := h1.2.1
  have l4 := h1.2.2
  have ee := h1.1
  subst ee
  clear h4
  with_reducible refine sk_cut _ (seg4 f4 l4) ?_
  intro en5 st5 h5
  with_reducible refine Exists.elim h5 fun T5 h1 => ?_
  have f5 := h1.2.1
  have l5 := h1.2.2
  have ee := h1.1
  subst ee
  clear h5
  with_reducible refine sk_cut _ (seg5 f5 l5 rfl) ?_
  intro en6 st6 h6
  with_reducible refine Exists.elim h6 fun T6 h1 => Exists.elim h1 fun p5 h2 => Exists.elim h2 fun p8 h3 => Exists.elim h3 fun p9 h4 => ?_
  have f6 := h4.2.1
  have l6 := h4.2.2
  have ee := h4.1
  subst ee
  with_reducible exact seg6 f6 l6
end Lw

namespace Lw
open PySem PySem.Spec L2 Pd
local macro_rules | `(tactic| walk_at "d") => `(tactic| first
  | with_reducible refine sk_seq ?_ | with_reducible refine sk_set ?_ | with_reducible refine sk_ite ?_ | with_reducible refine sk_ret ?_ | with_reducible refine sk_nil ?_ | with_reducible refine sk_expr ?_
  | with_reducible refine sk_par ?_ | with_reducible refine sk_asg ?_ | with_reducible refine sk_setIx ?_ | with_reducible refine sk_star ?_ | with_reducible refine sk_for ?_ | with_reducible refine sk_retN ?_
  | with_reducible refine sk_break ?_ | with_reducible refine sk_cont ?_
  | ((with_reducible refine ok_var (d := ?d) ?h ?_); (case h => exact rfl)) | with_reducible refine ok_c ?_ | with_reducible refine ok_nil ?_ | with_reducible refine ok_cons ?_ | with_reducible refine ok_op ?_
  | with_reducible refine ok_opC ?_ | with_reducible refine ok_un ?_ | with_reducible refine ok_unC ?_ | with_reducible refine ok_not ?_ | with_reducible refine ok_and ?_ | with_reducible refine ok_or ?_
  | with_reducible refine ok_chain ?_ | with_reducible refine ok_ite ?_ | with_reducible refine ok_blt ?_ | with_reducible refine ok_call ?_ | with_reducible refine ok_oNone ?_ | with_reducible refine ok_sl ?_
  | with_reducible refine ok_dnew ?_ | with_reducible refine ok_dnewC ?_ | with_reducible refine ok_B ?_ | with_reducible refine ok_tAnd ?_ | with_reducible refine ok_tOr ?_ | with_reducible refine ok_tNot ?_
  | with_reducible refine ok_tYes ?_ | with_reducible refine ok_iAny ?_ | with_reducible refine ok_lc ?_ | with_reducible refine ok_lcC ?_
  | with_reducible refine blk_bl ?_
  | with_reducible refine Cnd.t ?_ | with_reducible refine Cnd.f ?_ | with_reducible refine Cnd.nt ?_ | with_reducible refine Cnd.nf ?_
  | with_reducible refine lk_add_int ?_ | with_reducible refine lk_sub_int ?_ | with_reducible refine lk_lt_int ?_ | with_reducible refine lk_le_int ?_ | with_reducible refine lk_gt_int ?_ | with_reducible refine lk_ge_int ?_
  | (with_reducible refine ok_tup ?_) | (with_reducible refine ok_lst ?_) | (with_reducible refine ok_lstC ?_)
  | (with_reducible refine ok_mt ?_) | (with_reducible refine ok_repl ?_)
  | (with_reducible refine ok_neg ?_) | (with_reducible refine ok_oSome ?_)
  | (with_reducible refine ok_iRng1 ?_) | (with_reducible refine ok_iRng2 ?_)
  | (with_reducible refine ⟨_, rfl, ?_⟩)
  | ((with_reducible refine And.intro ?h ?_); (case h => first | exact Eq.refl _ | decide)))
local macro_rules | `(tactic| walk_at "e") => `(tactic| first
  | walk_at "d"
  | with_reducible refine lk_isi_str (by assumption) ?_ | with_reducible refine lk_isi_int (by assumption) ?_ | with_reducible refine lk_isi_bool (by assumption) ?_ | with_reducible refine lk_isi_tuple (by assumption) ?_
  | with_reducible refine lk_eq_str ?_ | with_reducible refine lk_ne_str ?_ | with_reducible refine lk_eq_int ?_ | with_reducible refine lk_ne_int ?_ | with_reducible refine lk_eq_nil ?_ | with_reducible refine lk_ne_nil ?_
  | with_reducible refine lk_eq_tnil ?_ | with_reducible refine lk_ne_tnil ?_ | with_reducible refine lk_in_strs rfl ?_ | with_reducible refine lk_nin_strs rfl ?_
  | ((with_reducible refine lk_ixt (a := ?a) ?h ?_); (case h => exact rfl)) | ((with_reducible refine lk_ixl (a := ?a) ?h ?_); (case h => exact rfl))
  | with_reducible refine glk_len_tup ?_ | with_reducible refine glk_len_lst ?_ | with_reducible refine glk_len_str (le_line (by omega)) ?_
  | with_reducible refine ⟨le_line (by (simp only [List.length_cons, List.length_nil]; omega)), ?_⟩)
set_option maxHeartbeats 600000 in
theorem law_body (ns : List Int) (hns : ns.length ≤ 63) : Ok (run LV 25 [.scr ns] []) (fun d _ => d = .bl true) NoE := by
  refine ok_fn (en := [some (.scr ns), none, none, none, none, none, none, none, none, none, none, none]) rfl ?_
  unfold b25
  refine sk_seq ?_
  refine sk_set ?_
  refine ok_call ?_
  refine ok_cons ?_
  refine ok_var rfl ?_
  refine ok_nil ?_
  refine ⟨rfl, ?_⟩
  refine (deck_ok hns (k := 198)).to ?_
  rintro _ st0 ⟨n, m, rfl, D0⟩
  refine sk_seq ?_
  refine sk_set ?_
  refine ok_lc ?_
  refine ok_iRng1 ?_
  refine ok_c ?_
  refine ⟨8, rfl, by decide, by decide, ?_⟩
  refine ok_lcLoop (I := fun acc rest st' => (∃ as : List Int, acc = as.map D.int ∧ as.length + rest.length = 8) ∧ Dk st' n m (8 - rest.length)) (fun acc st' h => ?_) (fun d ds acc st' h => ?_) _ _ _ ⟨⟨[], rfl, rfl⟩, by rw [rng_len]; exact D0⟩
  rotate_left
  · obtain ⟨⟨as, rfl, hl⟩, D1⟩ := h
    rw [List.length_cons] at hl D1
    refine lk_some rfl ?_
    refine ok_tYes ?_
    refine Cnd.t ?_
    refine ok_call ?_
    refine ok_cons ?_
    refine ok_var rfl ?_
    refine ok_cons ?_
    refine ok_c ?_
    refine ok_nil ?_
    refine ⟨rfl, ?_⟩
    refine (draw_ok D1 (by omega) (by decide) (by decide)).to ?_
    rintro _ st1 ⟨i, rfl, i0, i1, D2, F2⟩
    refine ⟨Nat.lt_of_lt_of_le (by rw [List.length_map]; omega) (le_line (n := 10) (by decide)), ⟨as ++ [i], by rw [List.map_append]; rfl, by rw [List.length_append, List.length_singleton]; omega⟩, D2.more (by push_cast; omega)⟩
  obtain ⟨⟨as, rfl, hl⟩, D1⟩ := h
  rw [List.length_nil, Nat.add_zero] at hl
  have D1 : Dk st' n m 8 := D1
  refine sk_cut (fun en st' => (∃ o3 o6 o7 o10, en = [some (.scr ns), some (.cell n), some (.lst (as.map D.int)), o3, none, none, o6, o7, none, none, o10, none])) ?_ ?_
  · refine sk_for ?_
    refine ok_iAny ?_
    refine ok_var rfl ?_
    refine lk_some (a := as.map D.int) rfl ?_
    refine sk_forLoop (I := fun rest en st' => (∃ o3 o6 o7 o10, en = [some (.scr ns), some (.cell n), some (.lst (as.map D.int)), o3, none, none, o6, o7, none, none, o10, none]) ∧ (∃ bs : List Int, rest = bs.map D.int ∧ bs.length ≤ 8) ∧ Dk st' n m (100 + 10 ^ 11 * (8 - rest.length)))
      (fun en st' h => h.1) (fun d ds en st' h => ?_) _ _ _ ⟨⟨none, none, none, none, rfl⟩, ⟨as, rfl, by omega⟩, D1.more (by rw [List.length_map, hl]; decide)⟩
    obtain ⟨⟨o3, o6, o7, o10, rfl⟩, ⟨bs, hb, hbl⟩, D2⟩ := h
    cases bs with
    | nil => cases hb
    | cons b bs =>
      cases hb
      rw [List.length_cons] at hbl
      rw [List.length_cons, List.length_map] at D2
      have T0 : (100 : Int) + 10 ^ 11 * (8 - ((bs.length + 1 : Nat) : Int)) ≤ 10 ^ 13 := by push_cast; omega
      refine lk_some rfl ?_
      refine sk_seq ?_
      refine sk_set ?_
      refine ok_call ?_
      refine ok_cons ?_
      refine ok_var rfl ?_
      refine ok_cons ?_
      repeat walk_at "e"
      refine (draw_ok D2 (by omega) (by decide) (by decide)).to ?_
      rintro _ st3 ⟨i, rfl, i0, i1, D3, F3⟩
      refine lk_ix_lst i0 (by show i < 3; exact i1) fun dq hdq _ => ?_
      obtain ⟨e, rfl, he⟩ : ∃ e : Nat, dq = .int (e : Int) ∧ e ≤ 11 := by
        have : dq = .int 2 ∨ dq = .int 5 ∨ dq = .int 11 := by simpa using hdq
        rcases this with rfl | rfl | rfl
        · exact ⟨2, rfl, by decide⟩
        · exact ⟨5, rfl, by decide⟩
        · exact ⟨11, rfl, by decide⟩
      refine ok_cons ?_
      refine ok_lstC ?_
      repeat walk_at "e"
      refine (draw_ok D3 (by omega) (by decide) (by decide)).to ?_
      rintro _ st4 ⟨q, rfl, q0, q1, D4, F4⟩
      repeat walk_at "e"
      have cn : st4.length ≠ n := fun z => by
        obtain ⟨_, _, _, _, q, _⟩ := D4.ex
        have := (List.getElem?_eq_some_iff.mp q).1
        omega
      have cm : st4.length ≠ m := fun z => by
        obtain ⟨_, _, _, _, _, q, _⟩ := D4.ex
        have := (List.getElem?_eq_some_iff.mp q).1
        omega
      have ce : cost e ≤ 36279705600 := by
        have : ∀ e : Nat, e ≤ 11 → cost e ≤ 36279705600 := by decide
        exact this e he
      refine (term_gen e (k := 199) he (show e + 5 ≤ 199 by omega) (D4.app [Cel.lst [D.int q]]) (by omega) get_new cn cm q0 (by omega)).to ?_
      rintro good st5 ⟨c, q', gt, z0, z1, z2, z3, D5, F5⟩
      have hc : c ≤ 81 := by omega
      have bg : Bx 121500 (10 ^ 39) 24 good := gt.b.mono (by omega) (Nat.le_refl _) (by omega)
      have gg : gd good = true := bg.gd (by decide) (by decide)
      repeat walk_at "e"
      refine ok_of (term_ok 80 good st5 199 gg (Nat.le_trans bg.n (by decide)) (by decide)) ?_
      repeat walk_at "e"
      refine lk_isnot ?_
      repeat walk_at "e"
      refine Cnd.no (by rw [gt.t 80 (Nat.le_trans bg.n (by decide))]; rfl) ?_
      repeat walk_at "e"
      refine ok_of (right_ok bg (by decide) (by decide) (by decide) (by decide)) ?_
      refine blk_bl ?_
      refine Cnd.nt ?_
      refine sk_nil ?_
      have T1 : (100 : Int) + 10 ^ 11 * (8 - ((bs.length + 1 : Nat) : Int)) + 1 + 1 + cost e ≤ 10 ^ 14 := by omega
      generalize hT : (100 : Int) + 10 ^ 11 * (8 - ((bs.length + 1 : Nat) : Int)) = T at *
      refine sk_cut (fun en st' => (∃ o7 o10, en = [some (.scr ns), some (.cell n), some (.lst (as.map D.int)), some (.int b), none, none, some good, o7, none, none, o10, none]) ∧ Dk st' n m (T + 1 + 1 + cost e + 4000)) ?_ ?_
      · refine sk_for ?_
        refine ok_iRng1 ?_
        refine ok_c ?_
        refine ⟨3, rfl, by decide, by decide, ?_⟩
        refine sk_forLoop (I := fun rest en st' => (∃ o7 o10, en = [some (.scr ns), some (.cell n), some (.lst (as.map D.int)), some (.int b), none, none, some good, o7, none, none, o10, none]) ∧ Dk st' n m (T + 1 + 1 + cost e + 1200 * (3 - rest.length)) ∧ rest.length ≤ 3)
          (fun en st' h => ?_) (fun d ds en st' h => ?_) _ _ _ ⟨⟨o7, o10, rfl⟩, D5.more (by rw [rng_len]; simp), by rw [rng_len]; decide⟩
        · exact ⟨h.1, h.2.1.more (by simp)⟩
        obtain ⟨⟨p7, p10, rfl⟩, D6, hl3⟩ := h
        rw [List.length_cons] at D6 hl3
        refine lk_some rfl ?_
        repeat walk_at "e"
        refine (bent_gen 24 bg.a (Nat.le_trans bg.w (by decide)) (Nat.le_trans bg.m (by decide)) bg.n (by decide) D6 (by push_cast; omega)).to ?_
        rintro b1 st7 ⟨bb1, D7, F7⟩
        have bb1 : Bx 246000 (10 ^ 39 + 20) 26 b1 := bb1.mono (by have := bg.w; omega) (by have := bg.m; omega) (by have := bg.n; omega)
        refine sk_cut (fun en st' => (∃ o7 b2, en = [some (.scr ns), some (.cell n), some (.lst (as.map D.int)), some (.int b), none, none, some good, o7, none, none, some b2, none] ∧ Bx 500000 (10 ^ 39 + 40) 30 b2) ∧ Dk st' n m (T + 1 + 1 + cost e + 1200 * (3 - ((ds.length + 1 : Nat) : Int)) + 1100)) ?_ ?_
        · repeat walk_at "e"
          refine Cnd.of (fun c1 => ?_) (fun c1 => ?_)
          · repeat walk_at "e"
            refine (bent_gen 26 bb1.a (Nat.le_trans bb1.w (by decide)) (Nat.le_trans bb1.m (by decide)) bb1.n (by decide) D7 (by push_cast; omega)).to ?_
            rintro b2 st8 ⟨bb2, D8, F8⟩
            exact ⟨⟨_, b2, rfl, bb2.mono (by have := bb1.w; omega) (by have := bb1.m; omega) (by have := bb1.n; omega)⟩, D8.more (by push_cast; omega)⟩
          · repeat walk_at "e"
            exact ⟨⟨_, b1, rfl, bb1.mono (by decide) (by decide) (by decide)⟩, D7.more (by push_cast; omega)⟩
        rintro _ st8 ⟨⟨p7', b2, rfl, bb2⟩, D8⟩
        repeat walk_at "e"
        refine ok_of (right_ok bb2 (by decide) (by decide) (by decide) (by decide)) ?_
        repeat walk_at "e"
        exact ⟨⟨_, _, rfl⟩, D8.more (by push_cast; omega), by omega⟩
      rintro _ st6 ⟨⟨p7, p10, rfl⟩, D6⟩
      repeat walk_at "e"
      refine (names_ok D6 (by omega) (by decide)).to ?_
      rintro _ st7 ⟨rfl, D7, F7⟩
      repeat walk_at "e"
      exact ⟨⟨_, _, _, _, rfl⟩, ⟨bs, rfl, by omega⟩, D7.more (by rw [List.length_map, ← hT]; push_cast; omega)⟩
  rintro _ st1 ⟨o3, o6, o7, o10, rfl⟩
  with_reducible exact tail7 rfl
theorem law_true (ns : List Int) (h : ns.length ≤ 63) : ∃ st, run LV 25 [.scr ns] [] = .ok (.bl true) st := by
  obtain ⟨d, st, e, rfl⟩ := (law_body ns h).eq
  exact ⟨st, e⟩
end Lw

namespace Lw
open PySem PySem.Spec L2 Pd
theorem rgL : RG LV callerA := ⟨⟨rfl, by decide, by decide⟩, rfl⟩
theorem gv_MARKS_vals {t u : Tok} : Vals [V.str "run", V.str "gone"] (#[Value.str "run" t, Value.str "gone" u] : Array Value).toList := .cons ⟨_, rfl⟩ (.cons ⟨_, rfl⟩ .nil)
theorem gv_MARKS_rep {C : Cn} (W : Wd) : RepL C W [.str "run", .str "gone"] [V.str "run", V.str "gone"] := .cons (.str _) (.cons (.str _) .nil)
end Lw
namespace Lw
open PySem PySem.Spec L2 Pd
theorem all_mk {l : PySem.W.OpenLaw} {w : World} {K : PySem.W.Frag} {h : Heap} {mg : Str → Option Value} {fl : Addr} (X : K.In h) (G : h.Ns mainGlobals mg) (hfa : mg "law" = some (.ref fl))
    {f0 : Addr} {od0 an0 : Option Addr} {sl0 : Array (Option Value)} {oc0 kV0 dc0 pm0 cd0 ct0 : Value}
    {f1 : Addr} {od1 an1 : Option Addr} {sl1 : Array (Option Value)} {oc1 kV1 dc1 pm1 cd1 ct1 : Value}
    {f2 : Addr} {od2 an2 : Option Addr} {sl2 : Array (Option Value)} {oc2 kV2 dc2 pm2 cd2 ct2 : Value}
    {f3 : Addr} {od3 an3 : Option Addr} {sl3 : Array (Option Value)} {oc3 kV3 dc3 pm3 cd3 ct3 : Value}
    {f4 : Addr} {od4 an4 : Option Addr} {sl4 : Array (Option Value)} {oc4 kV4 dc4 pm4 cd4 ct4 : Value}
    {f5 : Addr} {od5 an5 : Option Addr} {sl5 : Array (Option Value)} {oc5 kV5 dc5 pm5 cd5 ct5 : Value}
    {f6 : Addr} {od6 an6 : Option Addr} {sl6 : Array (Option Value)} {oc6 kV6 dc6 pm6 cd6 ct6 : Value}
    {f7 : Addr} {od7 an7 : Option Addr} {sl7 : Array (Option Value)} {oc7 kV7 dc7 pm7 cd7 ct7 : Value}
    {f8 : Addr} {od8 an8 : Option Addr} {sl8 : Array (Option Value)} {oc8 kV8 dc8 pm8 cd8 ct8 : Value}
    {f9 : Addr} {od9 an9 : Option Addr} {sl9 : Array (Option Value)} {oc9 kV9 dc9 pm9 cd9 ct9 : Value}
    {f10 : Addr} {od10 an10 : Option Addr} {sl10 : Array (Option Value)} {oc10 kV10 dc10 pm10 cd10 ct10 : Value}
    {f11 : Addr} {od11 an11 : Option Addr} {sl11 : Array (Option Value)} {oc11 kV11 dc11 pm11 cd11 ct11 : Value}
    {f12 : Addr} {od12 an12 : Option Addr} {sl12 : Array (Option Value)} {oc12 kV12 dc12 pm12 cd12 ct12 : Value}
    {f13 : Addr} {od13 an13 : Option Addr} {sl13 : Array (Option Value)} {oc13 kV13 dc13 pm13 cd13 ct13 : Value}
    {f14 : Addr} {od14 an14 : Option Addr} {sl14 : Array (Option Value)} {oc14 kV14 dc14 pm14 cd14 ct14 : Value}
    {f15 : Addr} {od15 an15 : Option Addr} {sl15 : Array (Option Value)} {oc15 kV15 dc15 pm15 cd15 ct15 : Value}
    {f16 : Addr} {od16 an16 : Option Addr} {sl16 : Array (Option Value)} {oc16 kV16 dc16 pm16 cd16 ct16 : Value}
    {f17 : Addr} {od17 an17 : Option Addr} {sl17 : Array (Option Value)} {oc17 kV17 dc17 pm17 cd17 ct17 : Value}
    {f18 : Addr} {od18 an18 : Option Addr} {sl18 : Array (Option Value)} {oc18 kV18 dc18 pm18 cd18 ct18 : Value}
    {f19 : Addr} {od19 an19 : Option Addr} {sl19 : Array (Option Value)} {oc19 kV19 dc19 pm19 cd19 ct19 : Value}
    {f20 : Addr} {od20 an20 : Option Addr} {sl20 : Array (Option Value)} {oc20 kV20 dc20 pm20 cd20 ct20 : Value}
    {f21 : Addr} {od21 an21 : Option Addr} {sl21 : Array (Option Value)} {oc21 kV21 dc21 pm21 cd21 ct21 : Value}
    {f22 : Addr} {od22 an22 : Option Addr} {sl22 : Array (Option Value)} {oc22 kV22 dc22 pm22 cd22 ct22 : Value}
    {f23 : Addr} {od23 an23 : Option Addr} {sl23 : Array (Option Value)} {oc23 kV23 dc23 pm23 cd23 ct23 : Value}
    {f24 : Addr} {od24 an24 : Option Addr} {sl24 : Array (Option Value)} {oc24 kV24 dc24 pm24 cd24 ct24 : Value}
    {f25 : Addr} {od25 an25 : Option Addr} {sl25 : Array (Option Value)} {oc25 kV25 dc25 pm25 cd25 ct25 : Value}
    {t_AT : Tok}
    {t_CALL : Tok}
    {t_FAMILY : Tok}
    {t_FIGURES : Tok}
    {t_FUN : Tok}
    {t_GIVE : Tok}
    {t_HOLE : Tok}
    {t_LETTERS : Tok}
    {a_MARKS : Addr} {od_MARKS : Option Addr} {n_MARKS : Nat} {sl_MARKS : Array (Option Value)} {its_MARKS : Array Value}
    {t_MOST_FIGURES : Tok}
    {t_MOST_NAME : Tok}
    {t_MOST_WORLD : Tok}
    {t_SHAPE : Tok}
    {t_TO : Tok}
    {t_WORLD : Tok}
    (a0 : PySem.W.nsIn K mainGlobals "is_whole" = some (some (.ref f0))) (l0 : K.lookup f0 = some ⟨oc0, od0, .func (PySem.W.fnOf "is_whole" "is_whole" (defArgs s0) (defBody s0) (defScope s0) .none kV0 dc0 pm0 an0 cd0 ct0), sl0⟩) (c0 : PySem.W.codeIn K cd0 "is_whole" = true) (k0 : PySem.W.keepIn K (.ref f0) = true)
    (a1 : PySem.W.nsIn K mainGlobals "is_name" = some (some (.ref f1))) (l1 : K.lookup f1 = some ⟨oc1, od1, .func (PySem.W.fnOf "is_name" "is_name" (defArgs s1) (defBody s1) (defScope s1) .none kV1 dc1 pm1 an1 cd1 ct1), sl1⟩) (c1 : PySem.W.codeIn K cd1 "is_name" = true) (k1 : PySem.W.keepIn K (.ref f1) = true)
    (a2 : PySem.W.nsIn K mainGlobals "are_figures" = some (some (.ref f2))) (l2 : K.lookup f2 = some ⟨oc2, od2, .func (PySem.W.fnOf "are_figures" "are_figures" (defArgs s2) (defBody s2) (defScope s2) .none kV2 dc2 pm2 an2 cd2 ct2), sl2⟩) (c2 : PySem.W.codeIn K cd2 "are_figures" = true) (k2 : PySem.W.keepIn K (.ref f2) = true)
    (a3 : PySem.W.nsIn K mainGlobals "is_far" = some (some (.ref f3))) (l3 : K.lookup f3 = some ⟨oc3, od3, .func (PySem.W.fnOf "is_far" "is_far" (defArgs s3) (defBody s3) (defScope s3) .none kV3 dc3 pm3 an3 cd3 ct3), sl3⟩) (c3 : PySem.W.codeIn K cd3 "is_far" = true) (k3 : PySem.W.keepIn K (.ref f3) = true)
    (a4 : PySem.W.nsIn K mainGlobals "is_called" = some (some (.ref f4))) (l4 : K.lookup f4 = some ⟨oc4, od4, .func (PySem.W.fnOf "is_called" "is_called" (defArgs s4) (defBody s4) (defScope s4) .none kV4 dc4 pm4 an4 cd4 ct4), sl4⟩) (c4 : PySem.W.codeIn K cd4 "is_called" = true) (k4 : PySem.W.keepIn K (.ref f4) = true)
    (a5 : PySem.W.nsIn K mainGlobals "is_mark" = some (some (.ref f5))) (l5 : K.lookup f5 = some ⟨oc5, od5, .func (PySem.W.fnOf "is_mark" "is_mark" (defArgs s5) (defBody s5) (defScope s5) .none kV5 dc5 pm5 an5 cd5 ct5), sl5⟩) (c5 : PySem.W.codeIn K cd5 "is_mark" = true) (k5 : PySem.W.keepIn K (.ref f5) = true)
    (a6 : PySem.W.nsIn K mainGlobals "are_terms" = some (some (.ref f6))) (l6 : K.lookup f6 = some ⟨oc6, od6, .func (PySem.W.fnOf "are_terms" "are_terms" (defArgs s6) (defBody s6) (defScope s6) .none kV6 dc6 pm6 an6 cd6 ct6), sl6⟩) (c6 : PySem.W.codeIn K cd6 "are_terms" = true) (k6 : PySem.W.keepIn K (.ref f6) = true)
    (a7 : PySem.W.nsIn K mainGlobals "is_term" = some (some (.ref f7))) (l7 : K.lookup f7 = some ⟨oc7, od7, .func (PySem.W.fnOf "is_term" "is_term" (defArgs s7) (defBody s7) (defScope s7) .none kV7 dc7 pm7 an7 cd7 ct7), sl7⟩) (c7 : PySem.W.codeIn K cd7 "is_term" = true) (k7 : PySem.W.keepIn K (.ref f7) = true)
    (a8 : PySem.W.nsIn K mainGlobals "_law_deck" = some (some (.ref f8))) (l8 : K.lookup f8 = some ⟨oc8, od8, .func (PySem.W.fnOf "_law_deck" "_law_deck" (defArgs s8) (defBody s8) (defScope s8) .none kV8 dc8 pm8 an8 cd8 ct8), sl8⟩) (c8 : PySem.W.codeIn K cd8 "_law_deck" = true) (k8 : PySem.W.keepIn K (.ref f8) = true)
    (a9 : PySem.W.nsIn K mainGlobals "_law_draw" = some (some (.ref f9))) (l9 : K.lookup f9 = some ⟨oc9, od9, .func (PySem.W.fnOf "_law_draw" "_law_draw" (defArgs s9) (defBody s9) (defScope s9) .none kV9 dc9 pm9 an9 cd9 ct9), sl9⟩) (c9 : PySem.W.codeIn K cd9 "_law_draw" = true) (k9 : PySem.W.keepIn K (.ref f9) = true)
    (a10 : PySem.W.nsIn K mainGlobals "_law_name" = some (some (.ref f10))) (l10 : K.lookup f10 = some ⟨oc10, od10, .func (PySem.W.fnOf "_law_name" "_law_name" (defArgs s10) (defBody s10) (defScope s10) .none kV10 dc10 pm10 an10 cd10 ct10), sl10⟩) (c10 : PySem.W.codeIn K cd10 "_law_name" = true) (k10 : PySem.W.keepIn K (.ref f10) = true)
    (a11 : PySem.W.nsIn K mainGlobals "_law_far" = some (some (.ref f11))) (l11 : K.lookup f11 = some ⟨oc11, od11, .func (PySem.W.fnOf "_law_far" "_law_far" (defArgs s11) (defBody s11) (defScope s11) .none kV11 dc11 pm11 an11 cd11 ct11), sl11⟩) (c11 : PySem.W.codeIn K cd11 "_law_far" = true) (k11 : PySem.W.keepIn K (.ref f11) = true)
    (a12 : PySem.W.nsIn K mainGlobals "_law_called" = some (some (.ref f12))) (l12 : K.lookup f12 = some ⟨oc12, od12, .func (PySem.W.fnOf "_law_called" "_law_called" (defArgs s12) (defBody s12) (defScope s12) .none kV12 dc12 pm12 an12 cd12 ct12), sl12⟩) (c12 : PySem.W.codeIn K cd12 "_law_called" = true) (k12 : PySem.W.keepIn K (.ref f12) = true)
    (a13 : PySem.W.nsIn K mainGlobals "_law_leaf" = some (some (.ref f13))) (l13 : K.lookup f13 = some ⟨oc13, od13, .func (PySem.W.fnOf "_law_leaf" "_law_leaf" (defArgs s13) (defBody s13) (defScope s13) .none kV13 dc13 pm13 an13 cd13 ct13), sl13⟩) (c13 : PySem.W.codeIn K cd13 "_law_leaf" = true) (k13 : PySem.W.keepIn K (.ref f13) = true)
    (a14 : PySem.W.nsIn K mainGlobals "_law_term" = some (some (.ref f14))) (l14 : K.lookup f14 = some ⟨oc14, od14, .func (PySem.W.fnOf "_law_term" "_law_term" (defArgs s14) (defBody s14) (defScope s14) .none kV14 dc14 pm14 an14 cd14 ct14), sl14⟩) (c14 : PySem.W.codeIn K cd14 "_law_term" = true) (k14 : PySem.W.keepIn K (.ref f14) = true)
    (a15 : PySem.W.nsIn K mainGlobals "_law_odd" = some (some (.ref f15))) (l15 : K.lookup f15 = some ⟨oc15, od15, .func (PySem.W.fnOf "_law_odd" "_law_odd" (defArgs s15) (defBody s15) (defScope s15) .none kV15 dc15 pm15 an15 cd15 ct15), sl15⟩) (c15 : PySem.W.codeIn K cd15 "_law_odd" = true) (k15 : PySem.W.keepIn K (.ref f15) = true)
    (a16 : PySem.W.nsIn K mainGlobals "_law_bent" = some (some (.ref f16))) (l16 : K.lookup f16 = some ⟨oc16, od16, .func (PySem.W.fnOf "_law_bent" "_law_bent" (defArgs s16) (defBody s16) (defScope s16) .none kV16 dc16 pm16 an16 cd16 ct16), sl16⟩) (c16 : PySem.W.codeIn K cd16 "_law_bent" = true) (k16 : PySem.W.keepIn K (.ref f16) = true)
    (a17 : PySem.W.nsIn K mainGlobals "_law_is_whole" = some (some (.ref f17))) (l17 : K.lookup f17 = some ⟨oc17, od17, .func (PySem.W.fnOf "_law_is_whole" "_law_is_whole" (defArgs s17) (defBody s17) (defScope s17) .none kV17 dc17 pm17 an17 cd17 ct17), sl17⟩) (c17 : PySem.W.codeIn K cd17 "_law_is_whole" = true) (k17 : PySem.W.keepIn K (.ref f17) = true)
    (a18 : PySem.W.nsIn K mainGlobals "_law_is_name" = some (some (.ref f18))) (l18 : K.lookup f18 = some ⟨oc18, od18, .func (PySem.W.fnOf "_law_is_name" "_law_is_name" (defArgs s18) (defBody s18) (defScope s18) .none kV18 dc18 pm18 an18 cd18 ct18), sl18⟩) (c18 : PySem.W.codeIn K cd18 "_law_is_name" = true) (k18 : PySem.W.keepIn K (.ref f18) = true)
    (a19 : PySem.W.nsIn K mainGlobals "_law_is_far" = some (some (.ref f19))) (l19 : K.lookup f19 = some ⟨oc19, od19, .func (PySem.W.fnOf "_law_is_far" "_law_is_far" (defArgs s19) (defBody s19) (defScope s19) .none kV19 dc19 pm19 an19 cd19 ct19), sl19⟩) (c19 : PySem.W.codeIn K cd19 "_law_is_far" = true) (k19 : PySem.W.keepIn K (.ref f19) = true)
    (a20 : PySem.W.nsIn K mainGlobals "_law_is_mark" = some (some (.ref f20))) (l20 : K.lookup f20 = some ⟨oc20, od20, .func (PySem.W.fnOf "_law_is_mark" "_law_is_mark" (defArgs s20) (defBody s20) (defScope s20) .none kV20 dc20 pm20 an20 cd20 ct20), sl20⟩) (c20 : PySem.W.codeIn K cd20 "_law_is_mark" = true) (k20 : PySem.W.keepIn K (.ref f20) = true)
    (a21 : PySem.W.nsIn K mainGlobals "_law_are_terms" = some (some (.ref f21))) (l21 : K.lookup f21 = some ⟨oc21, od21, .func (PySem.W.fnOf "_law_are_terms" "_law_are_terms" (defArgs s21) (defBody s21) (defScope s21) .none kV21 dc21 pm21 an21 cd21 ct21), sl21⟩) (c21 : PySem.W.codeIn K cd21 "_law_are_terms" = true) (k21 : PySem.W.keepIn K (.ref f21) = true)
    (a22 : PySem.W.nsIn K mainGlobals "_law_is_term" = some (some (.ref f22))) (l22 : K.lookup f22 = some ⟨oc22, od22, .func (PySem.W.fnOf "_law_is_term" "_law_is_term" (defArgs s22) (defBody s22) (defScope s22) .none kV22 dc22 pm22 an22 cd22 ct22), sl22⟩) (c22 : PySem.W.codeIn K cd22 "_law_is_term" = true) (k22 : PySem.W.keepIn K (.ref f22) = true)
    (a23 : PySem.W.nsIn K mainGlobals "_law_right" = some (some (.ref f23))) (l23 : K.lookup f23 = some ⟨oc23, od23, .func (PySem.W.fnOf "_law_right" "_law_right" (defArgs s23) (defBody s23) (defScope s23) .none kV23 dc23 pm23 an23 cd23 ct23), sl23⟩) (c23 : PySem.W.codeIn K cd23 "_law_right" = true) (k23 : PySem.W.keepIn K (.ref f23) = true)
    (a24 : PySem.W.nsIn K mainGlobals "_law_names_right" = some (some (.ref f24))) (l24 : K.lookup f24 = some ⟨oc24, od24, .func (PySem.W.fnOf "_law_names_right" "_law_names_right" (defArgs s24) (defBody s24) (defScope s24) .none kV24 dc24 pm24 an24 cd24 ct24), sl24⟩) (c24 : PySem.W.codeIn K cd24 "_law_names_right" = true) (k24 : PySem.W.keepIn K (.ref f24) = true)
    (a25 : PySem.W.nsIn K mainGlobals "law" = some (some (.ref f25))) (l25 : K.lookup f25 = some ⟨oc25, od25, .func (PySem.W.fnOf "law" "law" (defArgs s25) (defBody s25) (defScope s25) .none kV25 dc25 pm25 an25 cd25 ct25), sl25⟩) (c25 : PySem.W.codeIn K cd25 "law" = true) (k25 : PySem.W.keepIn K (.ref f25) = true)
    (zz_all : PySem.W.nsIn K mainGlobals "all" = some none)
    (zz_bool : PySem.W.nsIn K mainGlobals "bool" = some none)
    (zz_int : PySem.W.nsIn K mainGlobals "int" = some none)
    (zz_isinstance : PySem.W.nsIn K mainGlobals "isinstance" = some none)
    (zz_len : PySem.W.nsIn K mainGlobals "len" = some none)
    (zz_list : PySem.W.nsIn K mainGlobals "list" = some none)
    (zz_min : PySem.W.nsIn K mainGlobals "min" = some none)
    (zz_range : PySem.W.nsIn K mainGlobals "range" = some none)
    (zz_repr : PySem.W.nsIn K mainGlobals "repr" = some none)
    (zz_str : PySem.W.nsIn K mainGlobals "str" = some none)
    (zz_sum : PySem.W.nsIn K mainGlobals "sum" = some none)
    (zz_tuple : PySem.W.nsIn K mainGlobals "tuple" = some none)
    (gg_AT : PySem.W.nsIn K mainGlobals "AT" = some (some (.str "at" t_AT)))
    (gg_CALL : PySem.W.nsIn K mainGlobals "CALL" = some (some (.str "call" t_CALL)))
    (gg_FAMILY : PySem.W.nsIn K mainGlobals "FAMILY" = some (some (.str "family" t_FAMILY)))
    (gg_FIGURES : PySem.W.nsIn K mainGlobals "FIGURES" = some (some (.str "0123456789" t_FIGURES)))
    (gg_FUN : PySem.W.nsIn K mainGlobals "FUN" = some (some (.str "fun" t_FUN)))
    (gg_GIVE : PySem.W.nsIn K mainGlobals "GIVE" = some (some (.str "give" t_GIVE)))
    (gg_HOLE : PySem.W.nsIn K mainGlobals "HOLE" = some (some (.str "hole" t_HOLE)))
    (gg_LETTERS : PySem.W.nsIn K mainGlobals "LETTERS" = some (some (.str "abcdefghijklmnopqrstuvwxyz" t_LETTERS)))
    (gg_MARKS : PySem.W.nsIn K mainGlobals "MARKS" = some (some (.ref a_MARKS))) (gl_MARKS : K.lookup a_MARKS = some ⟨.type "tuple", od_MARKS, .seq its_MARKS n_MARKS, sl_MARKS⟩) (gv_MARKS : ∃ xs, its_MARKS.size ≤ sizeLine ∧ Vals xs its_MARKS.toList ∧ ∀ W, RepL ⟨K, mg⟩ W [.str "run", .str "gone"] xs)
    (gg_MOST_FIGURES : PySem.W.nsIn K mainGlobals "MOST_FIGURES" = some (some (.int 40 t_MOST_FIGURES)))
    (gg_MOST_NAME : PySem.W.nsIn K mainGlobals "MOST_NAME" = some (some (.int 8 t_MOST_NAME)))
    (gg_MOST_WORLD : PySem.W.nsIn K mainGlobals "MOST_WORLD" = some (some (.int 9 t_MOST_WORLD)))
    (gg_SHAPE : PySem.W.nsIn K mainGlobals "SHAPE" = some (some (.str "shape" t_SHAPE)))
    (gg_TO : PySem.W.nsIn K mainGlobals "TO" = some (some (.str "to" t_TO)))
    (gg_WORLD : PySem.W.nsIn K mainGlobals "WORLD" = some (some (.str "world" t_WORLD)))
    : ∃ fd : FuncData, (∀ (s : Shared) (v : Value), BindsTo s fd ⟨[v], []⟩ [("script", v)]) ∧ ∀ base : Heap, K.In base → base.Ns mainGlobals mg → FnG l.prog w K mg base LV fl fd ["script"] (spD ⟨K, mg⟩ 1 (run LV 25)) := by
  have e := hfa.symm.trans (PySem.W.mg_of X G a25)
  cases e
  have D0 := fun_da (ps := ["thing"]) X G a0 l0 c0 k0 fun _ _ _ _ _ _ us hl => match us, hl with | [_], _ => rfl
  have D1 := fun_da (ps := ["thing"]) X G a1 l1 c1 k1 fun _ _ _ _ _ _ us hl => match us, hl with | [_], _ => rfl
  have D2 := fun_da (ps := ["text"]) X G a2 l2 c2 k2 fun _ _ _ _ _ _ us hl => match us, hl with | [_], _ => rfl
  have D3 := fun_da (ps := ["thing"]) X G a3 l3 c3 k3 fun _ _ _ _ _ _ us hl => match us, hl with | [_], _ => rfl
  have D4 := fun_da (ps := ["thing"]) X G a4 l4 c4 k4 fun _ _ _ _ _ _ us hl => match us, hl with | [_], _ => rfl
  have D5 := fun_da (ps := ["thing"]) X G a5 l5 c5 k5 fun _ _ _ _ _ _ us hl => match us, hl with | [_], _ => rfl
  have D6 := fun_da (ps := ["thing"]) X G a6 l6 c6 k6 fun _ _ _ _ _ _ us hl => match us, hl with | [_], _ => rfl
  have D7 := fun_da (ps := ["thing"]) X G a7 l7 c7 k7 fun _ _ _ _ _ _ us hl => match us, hl with | [_], _ => rfl
  have D8 := fun_da (ps := ["script"]) X G a8 l8 c8 k8 fun _ _ _ _ _ _ us hl => match us, hl with | [_], _ => rfl
  have D9 := fun_da (ps := ["deck", "ways"]) X G a9 l9 c9 k9 fun _ _ _ _ _ _ us hl => match us, hl with | [_, _], _ => rfl
  have D10 := fun_da (ps := ["deck"]) X G a10 l10 c10 k10 fun _ _ _ _ _ _ us hl => match us, hl with | [_], _ => rfl
  have D11 := fun_da (ps := ["deck"]) X G a11 l11 c11 k11 fun _ _ _ _ _ _ us hl => match us, hl with | [_], _ => rfl
  have D12 := fun_da (ps := ["deck"]) X G a12 l12 c12 k12 fun _ _ _ _ _ _ us hl => match us, hl with | [_], _ => rfl
  have D13 := fun_da (ps := ["deck"]) X G a13 l13 c13 k13 fun _ _ _ _ _ _ us hl => match us, hl with | [_], _ => rfl
  have D14 := fun_da (ps := ["deck", "deep", "left"]) X G a14 l14 c14 k14 fun _ _ _ _ _ _ us hl => match us, hl with | [_, _, _], _ => rfl
  have D15 := fun_da (ps := ["deck", "thing"]) X G a15 l15 c15 k15 fun _ _ _ _ _ _ us hl => match us, hl with | [_, _], _ => rfl
  have D16 := fun_da (ps := ["deck", "thing"]) X G a16 l16 c16 k16 fun _ _ _ _ _ _ us hl => match us, hl with | [_, _], _ => rfl
  have D17 := fun_da (ps := ["thing"]) X G a17 l17 c17 k17 fun _ _ _ _ _ _ us hl => match us, hl with | [_], _ => rfl
  have D18 := fun_da (ps := ["thing"]) X G a18 l18 c18 k18 fun _ _ _ _ _ _ us hl => match us, hl with | [_], _ => rfl
  have D19 := fun_da (ps := ["thing"]) X G a19 l19 c19 k19 fun _ _ _ _ _ _ us hl => match us, hl with | [_], _ => rfl
  have D20 := fun_da (ps := ["thing"]) X G a20 l20 c20 k20 fun _ _ _ _ _ _ us hl => match us, hl with | [_], _ => rfl
  have D21 := fun_da (ps := ["thing"]) X G a21 l21 c21 k21 fun _ _ _ _ _ _ us hl => match us, hl with | [_], _ => rfl
  have D22 := fun_da (ps := ["thing"]) X G a22 l22 c22 k22 fun _ _ _ _ _ _ us hl => match us, hl with | [_], _ => rfl
  have D23 := fun_da (ps := ["thing"]) X G a23 l23 c23 k23 fun _ _ _ _ _ _ us hl => match us, hl with | [_], _ => rfl
  have D24 := fun_da (ps := ["deck"]) X G a24 l24 c24 k24 fun _ _ _ _ _ _ us hl => match us, hl with | [_], _ => rfl
  have D25 := fun_da (ps := ["script"]) X G a25 l25 c25 k25 fun _ _ _ _ _ _ us hl => match us, hl with | [_], _ => rfl
  refine ⟨PySem.W.fnOf "law" "law" (defArgs s25) (defBody s25) (defScope s25) .none kV25 dc25 pm25 an25 cd25 ct25, fun s v => .of_eq rfl, fun base _ _ => ?_⟩
  have M : Mod K mg (fun i => match i with | 0 => f0 | 1 => f1 | 2 => f2 | 3 => f3 | 4 => f4 | 5 => f5 | 6 => f6 | 7 => f7 | 8 => f8 | 9 => f9 | 10 => f10 | 11 => f11 | 12 => f12 | 13 => f13 | 14 => f14 | 15 => f15 | 16 => f16 | 17 => f17 | 18 => f18 | 19 => f19 | 20 => f20 | 21 => f21 | 22 => f22 | 23 => f23 | 24 => f24 | 25 => fl | _ => 0) (fun i => match i with | 0 => PySem.W.fnOf "is_whole" "is_whole" (defArgs s0) (defBody s0) (defScope s0) .none kV0 dc0 pm0 an0 cd0 ct0 | 1 => PySem.W.fnOf "is_name" "is_name" (defArgs s1) (defBody s1) (defScope s1) .none kV1 dc1 pm1 an1 cd1 ct1 | 2 => PySem.W.fnOf "are_figures" "are_figures" (defArgs s2) (defBody s2) (defScope s2) .none kV2 dc2 pm2 an2 cd2 ct2 | 3 => PySem.W.fnOf "is_far" "is_far" (defArgs s3) (defBody s3) (defScope s3) .none kV3 dc3 pm3 an3 cd3 ct3 | 4 => PySem.W.fnOf "is_called" "is_called" (defArgs s4) (defBody s4) (defScope s4) .none kV4 dc4 pm4 an4 cd4 ct4 | 5 => PySem.W.fnOf "is_mark" "is_mark" (defArgs s5) (defBody s5) (defScope s5) .none kV5 dc5 pm5 an5 cd5 ct5 | 6 => PySem.W.fnOf "are_terms" "are_terms" (defArgs s6) (defBody s6) (defScope s6) .none kV6 dc6 pm6 an6 cd6 ct6 | 7 => PySem.W.fnOf "is_term" "is_term" (defArgs s7) (defBody s7) (defScope s7) .none kV7 dc7 pm7 an7 cd7 ct7 | 8 => PySem.W.fnOf "_law_deck" "_law_deck" (defArgs s8) (defBody s8) (defScope s8) .none kV8 dc8 pm8 an8 cd8 ct8 | 9 => PySem.W.fnOf "_law_draw" "_law_draw" (defArgs s9) (defBody s9) (defScope s9) .none kV9 dc9 pm9 an9 cd9 ct9 | 10 => PySem.W.fnOf "_law_name" "_law_name" (defArgs s10) (defBody s10) (defScope s10) .none kV10 dc10 pm10 an10 cd10 ct10 | 11 => PySem.W.fnOf "_law_far" "_law_far" (defArgs s11) (defBody s11) (defScope s11) .none kV11 dc11 pm11 an11 cd11 ct11 | 12 => PySem.W.fnOf "_law_called" "_law_called" (defArgs s12) (defBody s12) (defScope s12) .none kV12 dc12 pm12 an12 cd12 ct12 | 13 => PySem.W.fnOf "_law_leaf" "_law_leaf" (defArgs s13) (defBody s13) (defScope s13) .none kV13 dc13 pm13 an13 cd13 ct13 | 14 => PySem.W.fnOf "_law_term" "_law_term" (defArgs s14) (defBody s14) (defScope s14) .none kV14 dc14 pm14 an14 cd14 ct14 | 15 => PySem.W.fnOf "_law_odd" "_law_odd" (defArgs s15) (defBody s15) (defScope s15) .none kV15 dc15 pm15 an15 cd15 ct15 | 16 => PySem.W.fnOf "_law_bent" "_law_bent" (defArgs s16) (defBody s16) (defScope s16) .none kV16 dc16 pm16 an16 cd16 ct16 | 17 => PySem.W.fnOf "_law_is_whole" "_law_is_whole" (defArgs s17) (defBody s17) (defScope s17) .none kV17 dc17 pm17 an17 cd17 ct17 | 18 => PySem.W.fnOf "_law_is_name" "_law_is_name" (defArgs s18) (defBody s18) (defScope s18) .none kV18 dc18 pm18 an18 cd18 ct18 | 19 => PySem.W.fnOf "_law_is_far" "_law_is_far" (defArgs s19) (defBody s19) (defScope s19) .none kV19 dc19 pm19 an19 cd19 ct19 | 20 => PySem.W.fnOf "_law_is_mark" "_law_is_mark" (defArgs s20) (defBody s20) (defScope s20) .none kV20 dc20 pm20 an20 cd20 ct20 | 21 => PySem.W.fnOf "_law_are_terms" "_law_are_terms" (defArgs s21) (defBody s21) (defScope s21) .none kV21 dc21 pm21 an21 cd21 ct21 | 22 => PySem.W.fnOf "_law_is_term" "_law_is_term" (defArgs s22) (defBody s22) (defScope s22) .none kV22 dc22 pm22 an22 cd22 ct22 | 23 => PySem.W.fnOf "_law_right" "_law_right" (defArgs s23) (defBody s23) (defScope s23) .none kV23 dc23 pm23 an23 cd23 ct23 | 24 => PySem.W.fnOf "_law_names_right" "_law_names_right" (defArgs s24) (defBody s24) (defScope s24) .none kV24 dc24 pm24 an24 cd24 ct24 | 25 => PySem.W.fnOf "law" "law" (defArgs s25) (defBody s25) (defScope s25) .none kV25 dc25 pm25 an25 cd25 ct25 | _ => PySem.W.fnOf "law" "law" (defArgs s25) (defBody s25) (defScope s25) .none kV25 dc25 pm25 an25 cd25 ct25) := { d0 := D0, d1 := D1, d2 := D2, d3 := D3, d4 := D4, d5 := D5, d6 := D6, d7 := D7, d8 := D8, d9 := D9, d10 := D10, d11 := D11, d12 := D12, d13 := D13, d14 := D14, d15 := D15, d16 := D16, d17 := D17, d18 := D18, d19 := D19, d20 := D20, d21 := D21, d22 := D22, d23 := D23, d24 := D24, d25 := D25, z_all := PySem.W.mg_none_of X G zz_all, z_bool := PySem.W.mg_none_of X G zz_bool, z_int := PySem.W.mg_none_of X G zz_int, z_isinstance := PySem.W.mg_none_of X G zz_isinstance, z_len := PySem.W.mg_none_of X G zz_len, z_list := PySem.W.mg_none_of X G zz_list, z_min := PySem.W.mg_none_of X G zz_min, z_range := PySem.W.mg_none_of X G zz_range, z_repr := PySem.W.mg_none_of X G zz_repr, z_str := PySem.W.mg_none_of X G zz_str, z_sum := PySem.W.mg_none_of X G zz_sum, z_tuple := PySem.W.mg_none_of X G zz_tuple, g_AT := ⟨_, PySem.W.mg_of X G gg_AT⟩, g_CALL := ⟨_, PySem.W.mg_of X G gg_CALL⟩, g_FAMILY := ⟨_, PySem.W.mg_of X G gg_FAMILY⟩, g_FIGURES := ⟨_, PySem.W.mg_of X G gg_FIGURES⟩, g_FUN := ⟨_, PySem.W.mg_of X G gg_FUN⟩, g_GIVE := ⟨_, PySem.W.mg_of X G gg_GIVE⟩, g_HOLE := ⟨_, PySem.W.mg_of X G gg_HOLE⟩, g_LETTERS := ⟨_, PySem.W.mg_of X G gg_LETTERS⟩, g_MARKS := (let ⟨xs, h1, h2, h3⟩ := gv_MARKS; gtup_mk X G gg_MARKS gl_MARKS h1 h2 h3), g_MOST_FIGURES := ⟨_, PySem.W.mg_of X G gg_MOST_FIGURES⟩, g_MOST_NAME := ⟨_, PySem.W.mg_of X G gg_MOST_NAME⟩, g_MOST_WORLD := ⟨_, PySem.W.mg_of X G gg_MOST_WORLD⟩, g_SHAPE := ⟨_, PySem.W.mg_of X G gg_SHAPE⟩, g_TO := ⟨_, PySem.W.mg_of X G gg_TO⟩, g_WORLD := ⟨_, PySem.W.mg_of X G gg_WORLD⟩ }
  exact all_ok M LV 25 (by decide)
end Lw
open PySem PySem.W PyProof.Rows
set_option maxRecDepth 100000 in
set_option maxHeartbeats 0 in
theorem PySem.Challenge.cw_walksbyworth_k01_terms_of_anything_holds : PySem.Challenge.rw_walksbyworth_k01_terms_of_anything.Holds := by
  w_on; o_law; k_head; (case hw => w_witness2)
  k_fill
  refine Pd.walkF (l := PySem.Challenge.rw_walksbyworth_k01_terms_of_anything) (k := Lw.LV) (G := Lw.run Lw.LV 25) rfl rfl Lw.rgL (fun w h Y => PySem.W.kIn_of Y) Lw.law_true ?F
  case F =>
    intro w mg fa h KX G hmg
    replace hmg : mg "law" = some (.ref fa) := hmg
    refine' Lw.all_mk KX G hmg ?a0 ?l0 ?c0 ?k0 ?a1 ?l1 ?c1 ?k1 ?a2 ?l2 ?c2 ?k2 ?a3 ?l3 ?c3 ?k3 ?a4 ?l4 ?c4 ?k4 ?a5 ?l5 ?c5 ?k5 ?a6 ?l6 ?c6 ?k6 ?a7 ?l7 ?c7 ?k7 ?a8 ?l8 ?c8 ?k8 ?a9 ?l9 ?c9 ?k9 ?a10 ?l10 ?c10 ?k10 ?a11 ?l11 ?c11 ?k11 ?a12 ?l12 ?c12 ?k12 ?a13 ?l13 ?c13 ?k13 ?a14 ?l14 ?c14 ?k14 ?a15 ?l15 ?c15 ?k15 ?a16 ?l16 ?c16 ?k16 ?a17 ?l17 ?c17 ?k17 ?a18 ?l18 ?c18 ?k18 ?a19 ?l19 ?c19 ?k19 ?a20 ?l20 ?c20 ?k20 ?a21 ?l21 ?c21 ?k21 ?a22 ?l22 ?c22 ?k22 ?a23 ?l23 ?c23 ?k23 ?a24 ?l24 ?c24 ?k24 ?a25 ?l25 ?c25 ?k25 ?zz_all ?zz_bool ?zz_int ?zz_isinstance ?zz_len ?zz_list ?zz_min ?zz_range ?zz_repr ?zz_str ?zz_sum ?zz_tuple ?gg_AT ?gg_CALL ?gg_FAMILY ?gg_FIGURES ?gg_FUN ?gg_GIVE ?gg_HOLE ?gg_LETTERS ?gg_MARKS ?gl_MARKS ?gv_MARKS ?gg_MOST_FIGURES ?gg_MOST_NAME ?gg_MOST_WORLD ?gg_SHAPE ?gg_TO ?gg_WORLD
    (case a0 => k_is)
    (case l0 => k_is)
    (case c0 => k_is)
    (case k0 => k_is)
    (case a1 => k_is)
    (case l1 => k_is)
    (case c1 => k_is)
    (case k1 => k_is)
    (case a2 => k_is)
    (case l2 => k_is)
    (case c2 => k_is)
    (case k2 => k_is)
    (case a3 => k_is)
    (case l3 => k_is)
    (case c3 => k_is)
    (case k3 => k_is)
    (case a4 => k_is)
    (case l4 => k_is)
    (case c4 => k_is)
    (case k4 => k_is)
    (case a5 => k_is)
    (case l5 => k_is)
    (case c5 => k_is)
    (case k5 => k_is)
    (case a6 => k_is)
    (case l6 => k_is)
    (case c6 => k_is)
    (case k6 => k_is)
    (case a7 => k_is)
    (case l7 => k_is)
    (case c7 => k_is)
    (case k7 => k_is)
    (case a8 => k_is)
    (case l8 => k_is)
    (case c8 => k_is)
    (case k8 => k_is)
    (case a9 => k_is)
    (case l9 => k_is)
    (case c9 => k_is)
    (case k9 => k_is)
    (case a10 => k_is)
    (case l10 => k_is)
    (case c10 => k_is)
    (case k10 => k_is)
    (case a11 => k_is)
    (case l11 => k_is)
    (case c11 => k_is)
    (case k11 => k_is)
    (case a12 => k_is)
    (case l12 => k_is)
    (case c12 => k_is)
    (case k12 => k_is)
    (case a13 => k_is)
    (case l13 => k_is)
    (case c13 => k_is)
    (case k13 => k_is)
    (case a14 => k_is)
    (case l14 => k_is)
    (case c14 => k_is)
    (case k14 => k_is)
    (case a15 => k_is)
    (case l15 => k_is)
    (case c15 => k_is)
    (case k15 => k_is)
    (case a16 => k_is)
    (case l16 => k_is)
    (case c16 => k_is)
    (case k16 => k_is)
    (case a17 => k_is)
    (case l17 => k_is)
    (case c17 => k_is)
    (case k17 => k_is)
    (case a18 => k_is)
    (case l18 => k_is)
    (case c18 => k_is)
    (case k18 => k_is)
    (case a19 => k_is)
    (case l19 => k_is)
    (case c19 => k_is)
    (case k19 => k_is)
    (case a20 => k_is)
    (case l20 => k_is)
    (case c20 => k_is)
    (case k20 => k_is)
    (case a21 => k_is)
    (case l21 => k_is)
    (case c21 => k_is)
    (case k21 => k_is)
    (case a22 => k_is)
    (case l22 => k_is)
    (case c22 => k_is)
    (case k22 => k_is)
    (case a23 => k_is)
    (case l23 => k_is)
    (case c23 => k_is)
    (case k23 => k_is)
    (case a24 => k_is)
    (case l24 => k_is)
    (case c24 => k_is)
    (case k24 => k_is)
    (case a25 => k_is)
    (case l25 => k_is)
    (case c25 => k_is)
    (case k25 => k_is)
    (case zz_all => k_is)
    (case zz_bool => k_is)
    (case zz_int => k_is)
    (case zz_isinstance => k_is)
    (case zz_len => k_is)
    (case zz_list => k_is)
    (case zz_min => k_is)
    (case zz_range => k_is)
    (case zz_repr => k_is)
    (case zz_str => k_is)
    (case zz_sum => k_is)
    (case zz_tuple => k_is)
    (case gg_AT => k_is)
    (case gg_CALL => k_is)
    (case gg_FAMILY => k_is)
    (case gg_FIGURES => k_is)
    (case gg_FUN => k_is)
    (case gg_GIVE => k_is)
    (case gg_HOLE => k_is)
    (case gg_LETTERS => k_is)
    (case gg_MARKS => k_is)
    (case gl_MARKS => k_is)
    (case gv_MARKS => exact ⟨_, by decide, Lw.gv_MARKS_vals, Lw.gv_MARKS_rep⟩)
    (case gg_MOST_FIGURES => k_is)
    (case gg_MOST_NAME => k_is)
    (case gg_MOST_WORLD => k_is)
    (case gg_SHAPE => k_is)
    (case gg_TO => k_is)
    (case gg_WORLD => k_is)

