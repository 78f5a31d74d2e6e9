import PyProof.Rows.All
import Wide.All
import OpenK.AllK
import Wide.FinOn
import KE.KStateDown
import HandS.ForMost
import HandS.ForExc
import HandS.More
import HandS.Defaults
import HandS.TupAny
import HandS.IsInst
import HandS.Codes
import HandS.Wide
import HandS.Style
import HandS.StrMore
import PyProof.Rows.StrMul
import HandS.Walk
import HandS.Flow
import HandS.ExcInit
import HandS.ExcIs
import HandS.ExcField
import HandS.ExcOwn
import KE.KExcIs
import HandS.HeadHook1
import HandS.Head0
import HandS.Head1
import HandS.Head2
import HandS.HeadEnd
import HandS.HeadHook2
import HandS.HeadHook3
import HandS.HeadHook4
import PySem.Challenge.RW_sealpress_k18_refusals_apart
set_option Elab.async false
set_option linter.all false
set_option maxRecDepth 100000
set_option maxHeartbeats 2000000
/-! the data layer: values as trees, objects that change as a map of their own -/
namespace D2
open PySem PySem.Spec PyProof.Rows L2

/-- the built-in classes that are asked for -/
inductive BT where
  | str | int | bool | list | tuple | dict
def BT.nm : BT → String
  | .str => "str" | .int => "int" | .bool => "bool" | .list => "list" | .tuple => "tuple" | .dict => "dict"
/-- a value as data: what is never changed is a tree, what may be changed stands behind a reference -/
inductive D where
  | non | bl (b : Bool) | int (i : Int) | str (x : List Nat) | opq (v : V) | bt (b : BT) | ref (a : Addr)
  | tup (ds : List D) | lst (ds : List D) | arg (ds : List D)
  | exn (a : Addr) (d : Option Addr) (cls : Value) (ns : List Str) (ds : List D)
  deriving Inhabited
/-- an object that may be changed -/
inductive MO where
  | ml (ds : List D) | md (kvs : List (Key × D)) | mo (C : Addr) (fs : List (Str × D))
abbrev Mu := Addr → Option MO
def put (μ : Mu) (a : Addr) (o : MO) : Mu := fun b => if b = a then some o else μ b
def drop1 (μ : Mu) (a : Addr) : Mu := fun b => if b = a then none else μ b
theorem put_same {μ : Mu} {a : Addr} {o : MO} : put μ a o a = some o := if_pos rfl
theorem put_ne {μ : Mu} {a b : Addr} {o : MO} (h : b ≠ a) : put μ a o b = μ b := if_neg h
theorem put_put {μ : Mu} {a : Addr} {o u : MO} : put (put μ a o) a u = put μ a u := by
  funext b; unfold put; split <;> rfl
theorem put_comm {μ : Mu} {a b : Addr} {o u : MO} (h : a ≠ b) : put (put μ a o) b u = put (put μ b u) a o := by
  funext c; unfold put
  by_cases h1 : c = b
  · subst h1; simp [Ne.symm h]
  · simp [h1]
theorem put_id {μ : Mu} {a : Addr} {o : MO} (h : μ a = some o) : put μ a o = μ := by
  funext b; unfold put
  by_cases e : b = a
  · subst e; simp [h]
  · simp [e]
theorem mu_ne {μ : Mu} {a b : Addr} {o : MO} (h : μ a = some o) (h' : μ b = none) : a ≠ b := by
  intro e; subst e; rw [h] at h'; cases h'

section
variable (K : PySem.W.Frag) (Z : Addr → Prop) (H : Hp)
/-- a list that is not changed any more -/
def FzL (a : Addr) (xs : List V) : Prop := Z a ∧ H a = some (.lst xs)
/-- a list that can't be changed: the script, a list of the module -/
def SqA (a : Addr) (xs : List V) : Prop := (∃ o, H a = some (.frz o (.lst xs))) ∨
  ∃ (o : Obj) (its : Array Value) (n : Nat), K.lookup a = some o ∧ o.cls = .type "list" ∧ o.dict = none ∧ o.data = .seq its n ∧ its.size ≤ sizeLine ∧ Vals xs its.toList
mutual
def Rep : D → V → Prop
  | .non, v => v = .non
  | .bl b, v => v = .bl b
  | .int i, v => v = .int i
  | .str x, v => v = .str ⟨x.toArray⟩
  | .opq u, v => v = u
  | .bt b, v => v = .ty b.nm
  | .ref a, v => v = .ref a
  | .tup ds, v => ∃ a xs, v = .ref a ∧ SqT K H a xs ∧ RepL ds xs
  | .lst ds, v => ∃ a xs, v = .ref a ∧ FzL Z H a xs ∧ RepL ds xs
  | .arg ds, v => ∃ a xs, v = .ref a ∧ SqA K H a xs ∧ RepL ds xs
  | .exn a d _ ns ds, v => v = .ref a ∧ ((d = none ∧ ns = []) ∨ ∃ dx xs, d = some dx ∧ H dx = some (.xd (ns.zip xs)) ∧ RepL ds xs)
def RepL : List D → List V → Prop
  | [], vs => vs = []
  | d :: ds, vs => ∃ v r, vs = v :: r ∧ Rep d v ∧ RepL ds r
end
def RepK : List (Key × D) → List (Key × V) → Prop
  | [], vs => vs = []
  | (k, d) :: ds, vs => ∃ v r, vs = (k, v) :: r ∧ Rep K Z H d v ∧ RepK ds r
def RepF : List (Str × D) → List (Str × V) → Prop
  | [], vs => vs = []
  | (k, d) :: ds, vs => ∃ v r, vs = (k, v) :: r ∧ Rep K Z H d v ∧ RepF ds r
def RepS : List (Option D) → List (Option V) → Prop
  | [], vs => vs = []
  | none :: ds, vs => ∃ v r, vs = v :: r ∧ RepS ds r
  | some d :: ds, vs => ∃ v r, vs = some v :: r ∧ Rep K Z H d v ∧ RepS ds r
def RepO (a : Addr) : MO → Prop
  | .ml ds => ∃ xs, H a = some (.lst xs) ∧ RepL K Z H ds xs
  | .md kvs => ∃ kv, H a = some (.dK kv) ∧ RepK K Z H kvs kv
  | .mo C fs => ∃ dx fv, H a = some (.ins C dx fv) ∧ RepF K Z H fs fv
structure OkM (μ : Mu) : Prop where
  ob : ∀ a o, μ a = some o → ¬ Z a ∧ RepO K Z H a o
  zd : ∀ a, Z a → ∃ o, H a = some o
end
/-- what stays: the unchanging lists, and whatever can't be changed -/
structure Ext (Z : Addr → Prop) (H : Hp) (μ : Mu) (Z' : Addr → Prop) (H' : Hp) (μ' : Mu) : Prop where
  zz : ∀ a, Z a → Z' a
  zk : ∀ a o, Z a → H a = some o → H' a = some o
  im : ∀ a o, H a = some o → ¬ Mut (some o) → H' a = some o
  kp : ∀ a o, H a = some o → μ a = none → H' a = some o
  mm : ∀ a, μ' a ≠ none → μ a ≠ none ∨ H a = none
  zn : ∀ a, Z' a → Z a ∨ μ a ≠ none ∨ H a = none
theorem Ext.sub {Z : Addr → Prop} {H : Hp} {μ μ' : Mu} (h : ∀ a o, μ' a = some o → μ a = some o) : Ext Z H μ Z H μ' := ⟨fun _ h => h, fun _ _ _ h => h, fun _ _ h _ => h, fun _ _ h _ => h, fun a n => .inl (by
  cases e : μ' a with
  | none => exact (n e).elim
  | some o => rw [h a o e]; exact fun z => by cases z), fun _ h => .inl h⟩
theorem Ext.refl {Z : Addr → Prop} {H : Hp} {μ : Mu} : Ext Z H μ Z H μ := Ext.sub fun _ _ h => h
theorem Ext.trans {Z Z1 Z2 : Addr → Prop} {H H1 H2 : Hp} {μ μ1 μ2 : Mu} (x : Ext Z H μ Z1 H1 μ1) (y : Ext Z1 H1 μ1 Z2 H2 μ2) : Ext Z H μ Z2 H2 μ2 where
  zz := fun a h => y.zz a (x.zz a h)
  zk := fun a o h e => y.zk a o (x.zz a h) (x.zk a o h e)
  im := fun a o e m => y.im a o (x.im a o e m) m
  kp := fun a o e n => y.kp a o (x.kp a o e n) (by
    cases q : μ1 a with
    | none => rfl
    | some u =>
      rcases x.mm a (by rw [q]; exact fun z => by cases z) with z | z
      · exact (z n).elim
      · rw [e] at z; cases z)
  mm := fun a n => by
    rcases y.mm a n with z | z
    · exact x.mm a z
    · cases e : H a with
      | none => exact .inr rfl
      | some o =>
        cases q : μ a with
        | none => rw [x.kp a o e q] at z; cases z
        | some u => exact .inl fun w => by cases w
  zn := fun a h => by
    rcases y.zn a h with z | z | z
    · exact x.zn a z
    · rcases x.mm a z with w | w
      · exact .inr (.inl w)
      · exact .inr (.inr w)
    · cases e : H a with
      | none => exact .inr (.inr rfl)
      | some o =>
        cases q : μ a with
        | none => rw [x.kp a o e q] at z; cases z
        | some u => exact .inr (.inl fun w => by cases w)

section
variable {K : PySem.W.Frag} {Z Z' : Addr → Prop} {H H' : Hp} {μ0 μ1 : Mu}
theorem SqT.ext {a : Addr} {xs : List V} (x : Ext Z H μ0 Z' H' μ1) (h : SqT K H a xs) : SqT K H' a xs := by
  rcases h with (h | ⟨o, h⟩) | h
  · exact .inl (.inl (x.im a _ h (fun q => q)))
  · exact .inl (.inr ⟨o, x.im a _ h (fun q => q)⟩)
  · exact .inr h
theorem SqA.ext {a : Addr} {xs : List V} (x : Ext Z H μ0 Z' H' μ1) (h : SqA K H a xs) : SqA K H' a xs := by
  rcases h with ⟨o, h⟩ | h
  · exact .inl ⟨o, x.im a _ h (fun q => q)⟩
  · exact .inr h
theorem SqA.sq {a : Addr} {xs : List V} (h : SqA K H a xs) : SqL K H a xs := by
  rcases h with ⟨o, h⟩ | h
  · exact .inl (.inr ⟨o, h⟩)
  · exact .inr h
theorem FzL.ext {a : Addr} {xs : List V} (x : Ext Z H μ0 Z' H' μ1) (h : FzL Z H a xs) : FzL Z' H' a xs := ⟨x.zz a h.1, x.zk a _ h.1 h.2⟩
theorem FzL.sq {a : Addr} {xs : List V} (h : FzL Z H a xs) : SqL K H a xs := .inl (.inl h.2)
mutual
theorem Rep.ext (x : Ext Z H μ0 Z' H' μ1) : ∀ (d : D) (v : V), Rep K Z H d v → Rep K Z' H' d v
  | .non, _, h => h
  | .bl _, _, h => h
  | .int _, _, h => h
  | .str _, _, h => h
  | .opq _, _, h => h
  | .bt _, _, h => h
  | .ref _, _, h => h
  | .tup ds, v, h => by
    obtain ⟨a, xs, e, h1, h2⟩ := h
    exact ⟨a, xs, e, SqT.ext x h1, RepL.ext x ds xs h2⟩
  | .lst ds, v, h => by
    obtain ⟨a, xs, e, h1, h2⟩ := h
    exact ⟨a, xs, e, FzL.ext x h1, RepL.ext x ds xs h2⟩
  | .arg ds, v, h => by
    obtain ⟨a, xs, e, h1, h2⟩ := h
    exact ⟨a, xs, e, SqA.ext x h1, RepL.ext x ds xs h2⟩
  | .exn a d c ns ds, v, h => by
    obtain ⟨e, h⟩ := h
    rcases h with h | ⟨dx, xs, h0, h1, h2⟩
    · exact ⟨e, .inl h⟩
    · exact ⟨e, .inr ⟨dx, xs, h0, x.im dx _ h1 (fun q => q), RepL.ext x ds xs h2⟩⟩
theorem RepL.ext (x : Ext Z H μ0 Z' H' μ1) : ∀ (ds : List D) (vs : List V), RepL K Z H ds vs → RepL K Z' H' ds vs
  | [], _, h => h
  | d :: ds, vs, h => by
    obtain ⟨v, r, e, h1, h2⟩ := h
    exact ⟨v, r, e, Rep.ext x d v h1, RepL.ext x ds r h2⟩
end
theorem RepK.ext (x : Ext Z H μ0 Z' H' μ1) : ∀ (ds : List (Key × D)) (vs : List (Key × V)), RepK K Z H ds vs → RepK K Z' H' ds vs
  | [], _, h => h
  | (k, d) :: ds, vs, h => by
    obtain ⟨v, r, e, h1, h2⟩ := h
    exact ⟨v, r, e, Rep.ext x d v h1, RepK.ext x ds r h2⟩
theorem RepF.ext (x : Ext Z H μ0 Z' H' μ1) : ∀ (ds : List (Str × D)) (vs : List (Str × V)), RepF K Z H ds vs → RepF K Z' H' ds vs
  | [], _, h => h
  | (k, d) :: ds, vs, h => by
    obtain ⟨v, r, e, h1, h2⟩ := h
    exact ⟨v, r, e, Rep.ext x d v h1, RepF.ext x ds r h2⟩
theorem RepS.ext (x : Ext Z H μ0 Z' H' μ1) : ∀ (ds : List (Option D)) (vs : List (Option V)), RepS K Z H ds vs → RepS K Z' H' ds vs
  | [], _, h => h
  | none :: ds, vs, h => by
    obtain ⟨v, r, e, h2⟩ := h
    exact ⟨v, r, e, RepS.ext x ds r h2⟩
  | some d :: ds, vs, h => by
    obtain ⟨v, r, e, h1, h2⟩ := h
    exact ⟨v, r, e, Rep.ext x d v h1, RepS.ext x ds r h2⟩
theorem RepL.length : ∀ {ds : List D} {vs : List V}, RepL K Z H ds vs → ds.length = vs.length
  | [], _, h => by cases (show _ = [] from h); rfl
  | d :: ds, vs, h => by
    obtain ⟨v, r, rfl, _, h2⟩ := h
    simp [RepL.length h2]
theorem RepL.get : ∀ {ds : List D} {vs : List V} {i : Nat} {d : D}, RepL K Z H ds vs → ds[i]? = some d → ∃ v, vs[i]? = some v ∧ Rep K Z H d v
  | [], _, _, _, _, e => by simp at e
  | d :: ds, _, 0, d', h, e => by
    obtain ⟨v, r, rfl, h1, _⟩ := h
    simp at e; subst e
    exact ⟨v, rfl, h1⟩
  | d :: ds, _, i + 1, d', h, e => by
    obtain ⟨v, r, rfl, _, h2⟩ := h
    obtain ⟨w, h3, h4⟩ := RepL.get (i := i) h2 (by simpa using e)
    exact ⟨w, by simpa using h3, h4⟩
theorem RepL.append : ∀ {ds es : List D} {vs us : List V}, RepL K Z H ds vs → RepL K Z H es us → RepL K Z H (ds ++ es) (vs ++ us)
  | [], es, _, us, h, h' => by cases (show _ = [] from h); exact h'
  | d :: ds, es, _, us, h, h' => by
    obtain ⟨v, r, rfl, h1, h2⟩ := h
    exact ⟨v, r ++ us, rfl, h1, RepL.append h2 h'⟩
theorem RepL.take : ∀ {ds : List D} {vs : List V} (n : Nat), RepL K Z H ds vs → RepL K Z H (ds.take n) (vs.take n)
  | _, _, 0, _ => rfl
  | [], _, n + 1, h => by cases (show _ = [] from h); rfl
  | d :: ds, _, n + 1, h => by
    obtain ⟨v, r, rfl, h1, h2⟩ := h
    exact ⟨v, _, rfl, h1, RepL.take n h2⟩
theorem RepL.drop : ∀ {ds : List D} {vs : List V} (n : Nat), RepL K Z H ds vs → RepL K Z H (ds.drop n) (vs.drop n)
  | _, _, 0, h => h
  | [], _, n + 1, h => by cases (show _ = [] from h); rfl
  | d :: ds, _, n + 1, h => by
    obtain ⟨v, r, rfl, h1, h2⟩ := h
    exact RepL.drop n h2
theorem RepL.set : ∀ {ds : List D} {vs : List V} {d : D} {v : V} (i : Nat), RepL K Z H ds vs → Rep K Z H d v → RepL K Z H (ds.set i d) (vs.set i v)
  | [], _, _, _, _, h, _ => by cases (show _ = [] from h); rfl
  | d :: ds, _, d', v', 0, h, h' => by
    obtain ⟨v, r, rfl, h1, h2⟩ := h
    exact ⟨v', r, rfl, h', h2⟩
  | d :: ds, _, d', v', i + 1, h, h' => by
    obtain ⟨v, r, rfl, h1, h2⟩ := h
    exact ⟨v, _, rfl, h1, RepL.set i h2 h'⟩
theorem RepS.get : ∀ {ds : List (Option D)} {vs : List (Option V)} {i : Nat} {d : D}, RepS K Z H ds vs → ds[i]? = some (some d) → ∃ v, vs[i]? = some (some v) ∧ Rep K Z H d v
  | [], _, _, _, _, e => by simp at e
  | none :: ds, _, 0, d', h, e => by simp at e
  | some d :: ds, _, 0, d', h, e => by
    obtain ⟨v, r, rfl, h1, _⟩ := h
    simp at e; subst e
    exact ⟨v, rfl, h1⟩
  | none :: ds, _, i + 1, d', h, e => by
    obtain ⟨v, r, rfl, h2⟩ := h
    obtain ⟨w, h3, h4⟩ := RepS.get (i := i) h2 (by simpa using e)
    exact ⟨w, by simpa using h3, h4⟩
  | some d :: ds, _, i + 1, d', h, e => by
    obtain ⟨v, r, rfl, _, h2⟩ := h
    obtain ⟨w, h3, h4⟩ := RepS.get (i := i) h2 (by simpa using e)
    exact ⟨w, by simpa using h3, h4⟩
theorem RepS.set : ∀ {ds : List (Option D)} {vs : List (Option V)} {d : D} {v : V} (i : Nat), RepS K Z H ds vs → Rep K Z H d v → RepS K Z H (ds.set i (some d)) (vs.set i (some v))
  | [], _, _, _, _, h, _ => by cases (show _ = [] from h); rfl
  | none :: ds, _, d', v', 0, h, h' => by
    obtain ⟨v, r, rfl, h2⟩ := h
    exact ⟨v', r, rfl, h', h2⟩
  | some d :: ds, _, d', v', 0, h, h' => by
    obtain ⟨v, r, rfl, h1, h2⟩ := h
    exact ⟨v', r, rfl, h', h2⟩
  | none :: ds, _, d', v', i + 1, h, h' => by
    obtain ⟨v, r, rfl, h2⟩ := h
    exact ⟨v, _, rfl, RepS.set i h2 h'⟩
  | some d :: ds, _, d', v', i + 1, h, h' => by
    obtain ⟨v, r, rfl, h1, h2⟩ := h
    exact ⟨v, _, rfl, h1, RepS.set i h2 h'⟩
theorem RepS.wipe : ∀ {ds : List (Option D)} {vs : List (Option V)} (i : Nat) {o : Option V}, RepS K Z H ds vs → RepS K Z H (ds.set i none) (vs.set i o)
  | [], _, _, _, h => by cases (show _ = [] from h); rfl
  | none :: ds, _, 0, o, h => by
    obtain ⟨v, r, rfl, h2⟩ := h
    exact ⟨o, r, rfl, h2⟩
  | some d :: ds, _, 0, o, h => by
    obtain ⟨v, r, rfl, h1, h2⟩ := h
    exact ⟨o, r, rfl, h2⟩
  | none :: ds, _, i + 1, o, h => by
    obtain ⟨v, r, rfl, h2⟩ := h
    exact ⟨v, _, rfl, RepS.wipe i h2⟩
  | some d :: ds, _, i + 1, o, h => by
    obtain ⟨v, r, rfl, h1, h2⟩ := h
    exact ⟨v, _, rfl, h1, RepS.wipe i h2⟩
theorem RepS.length : ∀ {ds : List (Option D)} {vs : List (Option V)}, RepS K Z H ds vs → ds.length = vs.length
  | [], _, h => by cases (show _ = [] from h); rfl
  | none :: ds, vs, h => by
    obtain ⟨v, r, rfl, h2⟩ := h
    simp [RepS.length h2]
  | some d :: ds, vs, h => by
    obtain ⟨v, r, rfl, _, h2⟩ := h
    simp [RepS.length h2]

theorem RepO.ext {a : Addr} {o : MO} (x : Ext Z H μ0 Z' H' μ1) (h : H' a = H a) (r : RepO K Z H a o) : RepO K Z' H' a o := by
  cases o with
  | ml ds => obtain ⟨xs, e, q⟩ := r; exact ⟨xs, by rw [h]; exact e, RepL.ext x ds xs q⟩
  | md kvs => obtain ⟨xs, e, q⟩ := r; exact ⟨xs, by rw [h]; exact e, RepK.ext x kvs xs q⟩
  | mo C fs => obtain ⟨dx, xs, e, q⟩ := r; exact ⟨dx, xs, by rw [h]; exact e, RepF.ext x fs xs q⟩
theorem RepO.some {a : Addr} {o : MO} (r : RepO K Z H a o) : ∃ u, H a = some u ∧ Mut (some u) := by
  cases o with
  | ml ds => obtain ⟨xs, e, q⟩ := r; exact ⟨_, e, trivial⟩
  | md kvs => obtain ⟨xs, e, q⟩ := r; exact ⟨_, e, trivial⟩
  | mo C fs => obtain ⟨dx, xs, e, q⟩ := r; exact ⟨_, e, trivial⟩
theorem OkM.dom {μ : Mu} (ok : OkM K Z H μ) {a : Addr} {o : MO} (e : μ a = some o) : ∃ u, H a = some u ∧ Mut (some u) := (ok.ob a o e).2.some
theorem OkM.fresh {μ : Mu} (ok : OkM K Z H μ) {a : Addr} (e : H a = none) : μ a = none := by
  cases q : μ a with
  | none => rfl
  | some o =>
    obtain ⟨u, h, _⟩ := ok.dom q
    rw [e] at h; cases h
/-- a new object that is not tracked as one to be changed -/
theorem Ext.new {μ : Mu} {a : Addr} {o : HO} (n : H a = none) : Ext Z H μ Z (upd H a o) μ :=
  ⟨fun _ h => h, fun b u _ e => by rw [upd_ne (ne_of_none e n)]; exact e, fun b u e _ => by rw [upd_ne (ne_of_none e n)]; exact e, fun b u e _ => by rw [upd_ne (ne_of_none e n)]; exact e, fun _ h => .inl h, fun _ h => .inl h⟩
theorem Ext.made {μ : Mu} {a : Addr} {o : HO} {m : MO} (n : H a = none) : Ext Z H μ Z (upd H a o) (put μ a m) :=
  ⟨fun _ h => h, fun b u _ e => by rw [upd_ne (ne_of_none e n)]; exact e, fun b u e _ => by rw [upd_ne (ne_of_none e n)]; exact e, fun b u e _ => by rw [upd_ne (ne_of_none e n)]; exact e, fun b h => by
    by_cases hb : b = a
    · subst hb; exact .inr n
    · rw [put_ne hb] at h; exact .inl h, fun _ h => .inl h⟩
theorem OkM.new {μ : Mu} (ok : OkM K Z H μ) {a : Addr} {o : HO} (n : H a = none) : OkM K Z (upd H a o) μ :=
  ⟨fun b u e => ⟨(ok.ob b u e).1, (ok.ob b u e).2.ext (Ext.new (μ := μ) n) (by obtain ⟨w, h, _⟩ := ok.dom e; rw [upd_ne (ne_of_none h n)])⟩, fun b z => by
    obtain ⟨u, h⟩ := ok.zd b z
    exact ⟨u, by rw [upd_ne (ne_of_none h n)]; exact h⟩⟩
/-- a new list that is never changed -/
def Zadd (Z : Addr → Prop) (a : Addr) : Addr → Prop := fun b => Z b ∨ b = a
theorem Ext.newZ {μ : Mu} {a : Addr} {o : HO} (n : H a = none) : Ext Z H μ (Zadd Z a) (upd H a o) μ :=
  ⟨fun _ h => .inl h, fun b u _ e => by rw [upd_ne (ne_of_none e n)]; exact e, fun b u e _ => by rw [upd_ne (ne_of_none e n)]; exact e, fun b u e _ => by rw [upd_ne (ne_of_none e n)]; exact e, fun _ h => .inl h, fun b h => by
    rcases h with h | h
    · exact .inl h
    · subst h; exact .inr (.inr n)⟩
theorem OkM.newZ {μ : Mu} (ok : OkM K Z H μ) {a : Addr} {o : HO} (n : H a = none) : OkM K (Zadd Z a) (upd H a o) μ := by
  refine ⟨fun b u e => ?_, fun b z => ?_⟩
  · obtain ⟨w, h, _⟩ := ok.dom e
    have ne := ne_of_none h n
    refine ⟨fun z => z.elim (ok.ob b u e).1 ne, (ok.ob b u e).2.ext (Ext.newZ (μ := μ) n) (by rw [upd_ne ne])⟩
  · rcases z with z | z
    · obtain ⟨u, h⟩ := ok.zd b z
      exact ⟨u, by rw [upd_ne (ne_of_none h n)]; exact h⟩
    · subst z; exact ⟨o, upd_same⟩
/-- an object that may be changed is written -/
theorem Ext.write {μ : Mu} (ok : OkM K Z H μ) {a : Addr} {m m' : MO} {o : HO} (e : μ a = some m) : Ext Z H μ Z (upd H a o) (put μ a m') := by
  obtain ⟨u, h, mu⟩ := ok.dom e
  refine ⟨fun _ h => h, fun b w z q => ?_, fun b w q nm => ?_, fun b w q n => ?_, fun b h => ?_, fun _ h => .inl h⟩
  · rw [upd_ne (fun c => by subst c; exact (ok.ob _ m e).1 z)]; exact q
  · refine (upd_ne (fun c => ?_)).trans q
    subst c; rw [h] at q; cases q; exact nm mu
  · refine (upd_ne (fun c => ?_)).trans q
    subst c; rw [e] at n; cases n
  · by_cases hb : b = a
    · subst hb; rw [e]; exact .inl fun z => by cases z
    · rw [put_ne hb] at h; exact .inl h
theorem OkM.write {μ : Mu} (ok : OkM K Z H μ) {a : Addr} {m m' : MO} {o : HO} (e : μ a = some m) (r : RepO K Z (upd H a o) a m') : OkM K Z (upd H a o) (put μ a m') := by
  refine ⟨fun b u q => ?_, fun b z => ?_⟩
  · by_cases hb : b = a
    · subst hb; rw [put_same] at q; cases q
      exact ⟨(ok.ob b m e).1, r⟩
    · rw [put_ne hb] at q
      exact ⟨(ok.ob b u q).1, (ok.ob b u q).2.ext (Ext.write (m' := m') ok e) (upd_ne hb)⟩
  · obtain ⟨u, h⟩ := ok.zd b z
    exact ⟨u, by rw [upd_ne (fun c => by subst c; exact (ok.ob _ m e).1 z)]; exact h⟩
/-- a new object that may be changed -/
theorem OkM.made {μ : Mu} (ok : OkM K Z H μ) {a : Addr} {m : MO} {o : HO} (n : H a = none) (r : RepO K Z (upd H a o) a m) : OkM K Z (upd H a o) (put μ a m) := by
  refine ⟨fun b u q => ?_, fun b z => ?_⟩
  · by_cases hb : b = a
    · subst hb; rw [put_same] at q; cases q
      exact ⟨fun z => (by obtain ⟨w, h⟩ := ok.zd b z; rw [n] at h; cases h), r⟩
    · rw [put_ne hb] at q
      exact ⟨(ok.ob b u q).1, (ok.ob b u q).2.ext (Ext.new (μ := μ) n) (upd_ne hb)⟩
  · obtain ⟨u, h⟩ := ok.zd b z
    exact ⟨u, by rw [upd_ne (ne_of_none h n)]; exact h⟩
/-- forgetting -/
theorem OkM.forget {μ μ' : Mu} (ok : OkM K Z H μ) (h : ∀ a o, μ' a = some o → μ a = some o) : OkM K Z H μ' := ⟨fun a o e => ok.ob a o (h a o e), ok.zd⟩
/-- a list is not changed any more -/
theorem OkM.freeze {μ μ' : Mu} (ok : OkM K Z H μ) {a : Addr} {ds : List D} (e : μ a = some (.ml ds)) (n : μ' a = none) (h : ∀ b o, μ' b = some o → μ b = some o) :
    OkM K (Zadd Z a) H μ' ∧ Ext Z H μ (Zadd Z a) H μ' ∧ Rep K (Zadd Z a) H (.lst ds) (.ref a) := by
  have x : Ext Z H μ (Zadd Z a) H μ' := ⟨fun _ h => .inl h, fun _ _ _ h => h, fun _ _ h _ => h, fun _ _ h _ => h, fun b n' => .inl (by
    cases q : μ' b with
    | none => exact (n' q).elim
    | some o => rw [h b o q]; exact fun z => by cases z), fun b z => by
    rcases z with z | z
    · exact .inl z
    · subst z; rw [e]; exact .inr (.inl fun z => by cases z)⟩
  obtain ⟨xs, ha, r⟩ := (ok.ob a _ e).2
  refine ⟨⟨fun b u q => ?_, fun b z => ?_⟩, x, a, xs, rfl, ⟨.inr rfl, ha⟩, RepL.ext x ds xs r⟩
  · refine ⟨fun z => z.elim (ok.ob b u (h b u q)).1 fun c => ?_, (ok.ob b u (h b u q)).2.ext x rfl⟩
    subst c; rw [n] at q; cases q
  · rcases z with z | z
    · exact ok.zd b z
    · subst z; exact ⟨_, ha⟩
end
end D2

set_option Elab.async false
set_option linter.all false
set_option maxRecDepth 100000
set_option maxHeartbeats 2000000
namespace D2
open PySem PySem.Spec PyProof.Rows L2

abbrev S2 := List (Option D)
/-- what is wanted of an exception: its class, its fields, the slots, the objects -/
abbrev W2 := Value → List (Str × D) → S2 → Mu → Prop
abbrev Q2 := D → Mu → Prop
abbrev TE2 := S2 → Mu → Q2 → W2 → Prop
abbrev TT2 := S2 → Mu → (Bool → Mu → Prop) → W2 → Prop
abbrev TA2 := S2 → Mu → (List D → Mu → Prop) → W2 → Prop
structure Ends2 where
  nx : S2 → Mu → Prop
  rt : Q2
  bk : S2 → Mu → Prop := fun _ _ => False
  ct : S2 → Mu → Prop := fun _ _ => False
  ex : W2
abbrev TS2 := Ends2 → S2 → Mu → Prop

def XRep (K : PySem.W.Frag) (Z : Addr → Prop) (H : Hp) (d : Option Addr) (fs : List (Str × D)) : Prop :=
  (d = none ∧ fs = []) ∨ ∃ dx fv, d = some dx ∧ H dx = some (.xd fv) ∧ RepF K Z H fs fv
/-- the wish of exceptions at a state -/
def WK (K : PySem.W.Frag) (Z : Addr → Prop) (H : Hp) (μ : Mu) (W : WX) (w : W2) : Prop :=
  ∀ cls d σ H' Z' fs δ μ', OkM K Z' H' μ' → Ext Z H μ Z' H' μ' → RepS K Z' H' δ σ → XRep K Z' H' d fs → w cls fs δ μ' → W cls d σ H'
theorem WK.on {K : PySem.W.Frag} {Z Z' : Addr → Prop} {H H' : Hp} {μ μ1 : Mu} {W : WX} {w : W2} (h : WK K Z H μ W w) (x : Ext Z H μ Z' H' μ1) : WK K Z' H' μ1 W w :=
  fun cls d σ H2 Z2 fs δ μ o e => h cls d σ H2 Z2 fs δ μ o (x.trans e)
section
variable (K : PySem.W.Frag) (W : WX)
def LE (t : TE2) : TE := fun σ H Q => ∃ Z μ δ q w, OkM K Z H μ ∧ RepS K Z H δ σ ∧ WK K Z H μ W w ∧ t δ μ q w ∧
  ∀ v H' Z' d μ', OkM K Z' H' μ' → Ext Z H μ Z' H' μ' → Rep K Z' H' d v → q d μ' → Q v H'
def LT (t : TT2) : TT := fun σ H Q => ∃ Z μ δ q w, OkM K Z H μ ∧ RepS K Z H δ σ ∧ WK K Z H μ W w ∧ t δ μ q w ∧
  ∀ b H' Z' μ', OkM K Z' H' μ' → Ext Z H μ Z' H' μ' → q b μ' → Q b H'
def LA (n : Nat) (t : TA2) : TA := fun σ H Q => ∃ Z μ δ q w, OkM K Z H μ ∧ RepS K Z H δ σ ∧ WK K Z H μ W w ∧ t δ μ q w ∧
  ∀ vs H' Z' ds μ', OkM K Z' H' μ' → Ext Z H μ Z' H' μ' → RepL K Z' H' ds vs → ds.length = n → q ds μ' → Q vs H'
def LS (t : TS2) : TS := fun D σ H => ∃ Z μ δ E, OkM K Z H μ ∧ RepS K Z H δ σ ∧ WK K Z H μ W E.ex ∧ t E δ μ ∧
  (∀ σ' H' Z' δ' μ', OkM K Z' H' μ' → Ext Z H μ Z' H' μ' → RepS K Z' H' δ' σ' → (E.nx δ' μ' → D.nx σ' H') ∧ (E.bk δ' μ' → D.bk σ' H') ∧ (E.ct δ' μ' → D.ct σ' H')) ∧
  ∀ v H' Z' d μ', OkM K Z' H' μ' → Ext Z H μ Z' H' μ' → Rep K Z' H' d v → E.rt d μ' → D.rt v H'
end
section
variable (X : Cx) (W : WX)
abbrev DE (e : Expr) (t : TE2) : Prop := PE X e (LE X.K W t)
abbrev DT (e : Expr) (t : TT2) : Prop := PT X e (LT X.K W t)
abbrev DA (es : List Expr) (t : TA2) : Prop := PA X es (LA X.K W es.length t)
abbrev DS (st : Stmt) (t : TS2) : Prop := PS X st (LS X.K W t)
abbrev DSs (st : List Stmt) (t : TS2) : Prop := PSs X st (LS X.K W t)
end
theorem pe_imp {X : Cx} {e : Expr} {t t' : TE} (h : PE X e t) (i : ∀ σ H Q, t' σ H Q → t σ H Q) : PE X e t' := ⟨fun pins s σ H Q I q => h.run pins s σ H Q I (i σ H Q q)⟩
theorem pt_imp {X : Cx} {e : Expr} {t t' : TT} (h : PT X e t) (i : ∀ σ H Q, t' σ H Q → t σ H Q) : PT X e t' := ⟨fun pins s σ H Q I q => h.run pins s σ H Q I (i σ H Q q)⟩
theorem pw_imp {X : Cx} {e : Expr} {t t' : TT} (h : PW X e t) (i : ∀ σ H Q, t' σ H Q → t σ H Q) : PW X e t' := ⟨fun wh pins s σ H Q I q => h.run wh pins s σ H Q I (i σ H Q q)⟩
theorem pa_imp {X : Cx} {e : List Expr} {t t' : TA} (h : PA X e t) (i : ∀ σ H Q, t' σ H Q → t σ H Q) : PA X e t' := ⟨fun p pins s σ H Q I q => h.run p pins s σ H Q I (i σ H Q q)⟩
theorem ps_imp {X : Cx} {e : Stmt} {t t' : TS} (h : PS X e t) (i : ∀ D σ H, t' D σ H → t D σ H) : PS X e t' := ⟨fun pins s σ H D I q => h.run pins s σ H D I (i D σ H q)⟩
theorem pss_imp {X : Cx} {e : List Stmt} {t t' : TS} (h : PSs X e t) (i : ∀ D σ H, t' D σ H → t D σ H) : PSs X e t' := ⟨fun pins s σ H D I q => h.run pins s σ H D I (i D σ H q)⟩

/-! ### names, constants -/
def rVar (i : Nat) : TE2 := fun δ μ q _ => match δ[i]? with | some (some d) => q d μ | _ => False
def rCon (d : D) : TE2 := fun _ μ q _ => q d μ
section
variable {X : Cx} {W : WX} {pos : Pos}
theorem de_pe {e : Expr} {i : Nat} (h : PE X e (tVar i)) : DE X W e (rVar i) := pe_imp h fun σ H Q ⟨Z, μ, δ, q, w, ok, rs, wk, ht, k⟩ => by
  unfold rVar at ht
  split at ht
  · rename_i d e
    obtain ⟨v, h1, h2⟩ := rs.get e
    exact ⟨v, h1, k v H Z d μ ok Ext.refl h2 ht⟩
  · exact ht.elim
/-- the name in slot i -/
theorem dv (i : Nat) {x : Str} (hN : X.N[i]? = some x := by rfl) (hv : Vis X.env.scope x := by first | exact Or.inl rfl | exact Or.inr (Or.inl rfl) | exact Or.inr (Or.inr rfl)) (hd : (x == ("__debug__" : Str)) = false := by decide)
    (hcd : (x == ("__classdict__" : Str)) = false := by decide) : DE X W (.Name x pos) (rVar i) := de_pe (pe_var hN hv hd hcd)
theorem de_con {e : Expr} {d : D} {v : V} (h : PE X e (tC v)) (r : ∀ Z H, Rep X.K Z H d v) : DE X W e (rCon d) := pe_imp h fun σ H Q ⟨Z, μ, δ, q, w, ok, rs, wk, ht, k⟩ =>
  k v H Z d μ ok Ext.refl (r Z H) ht
theorem d_int {i j} : DE X W (.Constant (.int i) j pos) (rCon (.int i)) := de_con pe_int fun _ _ => rfl
theorem d_bl {i j} : DE X W (.Constant (.bool i) j pos) (rCon (.bl i)) := de_con pe_bl fun _ _ => rfl
theorem d_non {j} : DE X W (.Constant .none j pos) (rCon .non) := de_con pe_non fun _ _ => rfl
theorem str_back (x : Str) : (⟨x.cps.toList.toArray⟩ : Str) = x := by cases x; simp
/-- a text; l: its signs' numbers -/
theorem d_str {x : Str} {j} (l : List Nat) (h : x.cps.toList = l := by decide +kernel) : DE X W (.Constant (.str x) j pos) (rCon (.str l)) :=
  de_con pe_str fun _ _ => by subst h; show V.str x = V.str _; rw [str_back]
end

/-! ### the ends of readings -/
section
variable {K : PySem.W.Frag} {Z : Addr → Prop} {H : Hp} {μ : Mu} {Q : VK} {q : Q2}
abbrev Kon (K : PySem.W.Frag) (Z : Addr → Prop) (H : Hp) (μ : Mu) (Q : VK) (q : Q2) : Prop := ∀ v H' Z' d μ', OkM K Z' H' μ' → Ext Z H μ Z' H' μ' → Rep K Z' H' d v → q d μ' → Q v H'
theorem Kon.on {Z' : Addr → Prop} {H' : Hp} {μ' : Mu} (k : Kon K Z H μ Q q) (x : Ext Z H μ Z' H' μ') : Kon K Z' H' μ' Q q := fun v H2 Z2 d μ2 o e => k v H2 Z2 d μ2 o (x.trans e)
/-- a new list: m: one that may be changed -/
def newL (m : Bool) (ds : List D) (μ : Mu) (q : Q2) : Prop := match m with
  | false => q (.lst ds) μ
  | true => ∀ a, μ a = none → q (.ref a) (put μ a (.ml ds))
theorem newL_ok {m : Bool} {ds : List D} {xs : List V} (ok : OkM K Z H μ) (r : RepL K Z H ds xs) (h : newL m ds μ q) (k : Kon K Z H μ Q q) (p : Addr) (n : H p = none) : Q (.ref p) (upd H p (.lst xs)) := by
  cases m with
  | false => exact k _ _ _ (.lst ds) _ (ok.newZ n) (Ext.newZ n) (show Rep K _ _ (.lst ds) _ from ⟨p, xs, rfl, ⟨.inr rfl, upd_same⟩, RepL.ext (Ext.newZ (μ := μ) n) _ _ r⟩) h
  | true => exact k _ _ _ (.ref p) _ (ok.made (m := .ml ds) n ⟨xs, upd_same, RepL.ext (Ext.new (μ := μ) n) _ _ r⟩) (Ext.made n) rfl (h p (ok.fresh n))
theorem newT_ok {ds : List D} {xs : List V} (ok : OkM K Z H μ) (r : RepL K Z H ds xs) (h : q (.tup ds) μ) (k : Kon K Z H μ Q q) (p : Addr) (n : H p = none) : Q (.ref p) (upd H p (.tup xs)) :=
  k _ _ _ (.tup ds) _ (ok.new n) (Ext.new n) (show Rep K _ _ (.tup ds) _ from ⟨p, xs, rfl, SqT.of upd_same, RepL.ext (Ext.new (μ := μ) n) _ _ r⟩) h
end

/-! ### argument lists, displays -/
def rNil : TA2 := fun _ μ q _ => q [] μ
def rCons (te : TE2) (tr : TA2) : TA2 := fun δ μ q w => te δ μ (fun x μ1 => tr δ μ1 (fun xs μ2 => q (x :: xs) μ2) w) w
def rTup (t : TA2) : TE2 := fun δ μ q w => t δ μ (fun ds μ1 => q (.tup ds) μ1) w
def rLst (m : Bool) (t : TA2) : TE2 := fun δ μ q w => t δ μ (fun ds μ1 => newL m ds μ1 q) w
section
variable {X : Cx} {W : WX} {pos : Pos} {e : Expr} {es : List Expr} {te : TE2} {t : TA2}
theorem da_nil : DA X W [] rNil := pa_imp pa_nil fun σ H Q ⟨Z, μ, δ, q, w, ok, rs, wk, ht, k⟩ => k [] H Z [] μ ok Ext.refl rfl rfl ht
theorem da_cons (ha : DE X W e te) (hr : DA X W es t) (hs : starEach (e :: es) X.env = (false, eval e X.env) :: starEach es X.env := by rfl) : DA X W (e :: es) (rCons te t) :=
  pa_imp (pa_cons ha hr hs) fun σ H Q ⟨Z, μ, δ, q, w, ok, rs, wk, ht, k⟩ =>
    ⟨Z, μ, δ, _, w, ok, rs, wk, ht, fun v H1 Z1 d μ1 ok1 x1 r1 h1 => ⟨Z1, μ1, δ, _, w, ok1, rs.ext x1 _ _, wk.on x1, h1, fun vs H2 Z2 ds μ2 ok2 x2 r2 hl h2 =>
      k (v :: vs) H2 Z2 (d :: ds) μ2 ok2 (x1.trans x2) ⟨v, vs, rfl, r1.ext x2 _ _, r2⟩ (by simp [hl]) h2⟩⟩
theorem small_line {n : Nat} (h : n ≤ 1000) : n ≤ sizeLine := Nat.le_of_lt (small1000 h)
theorem d_tup {x1} (h : DA X W es t) (hl : es.length ≤ 1000 := by decide) : DE X W (.Tuple es x1 pos) (rTup t) :=
  pe_imp (pe_tup h) fun σ H Q ⟨Z, μ, δ, q, w, ok, rs, wk, ht, k⟩ => ⟨Z, μ, δ, _, w, ok, rs, wk, ht, fun vs H1 Z1 ds μ1 ok1 x1 r1 hn h1 =>
    ⟨by rw [← r1.length, hn]; exact small_line hl, fun p n => newT_ok ok1 r1 h1 (Kon.on k x1) p n⟩⟩
theorem d_lst (m : Bool) (h : DA X W es t) (hl : es.length ≤ 1000 := by decide) : DE X W (.List es pos) (rLst m t) :=
  pe_imp (pe_lst h) fun σ H Q ⟨Z, μ, δ, q, w, ok, rs, wk, ht, k⟩ => ⟨Z, μ, δ, _, w, ok, rs, wk, ht, fun vs H1 Z1 ds μ1 ok1 x1 r1 hn h1 =>
    ⟨by rw [← r1.length, hn]; exact small_line hl, fun p n => newL_ok ok1 r1 h1 (Kon.on k x1) p n⟩⟩
end

/-! ### two-place operations by values -/
abbrev R2D := D → D → Mu → Q2 → Prop
def OpD (X : Cx) (f : Value → Value → Sem Value) (r : R2D) : Prop := ∃ r' : R2, OpR X f r' ∧
  ∀ (Z : Addr → Prop) (H : Hp) (μ : Mu) (x y : V) (dx dy : D) (Q : VK) (q : Q2), OkM X.K Z H μ → Rep X.K Z H dx x → Rep X.K Z H dy y → r dx dy μ q → Kon X.K Z H μ Q q → r' x y H Q
def rOp (r : R2D) (ta tb : TE2) : TE2 := fun δ μ q w => ta δ μ (fun x μ1 => tb δ μ1 (fun y μ2 => r x y μ2 q) w) w
/-- two expressions in a row -/
theorem le_bin {K : PySem.W.Frag} {W : WX} {ta tb : TE2} {σ : L2.St} {H : Hp} {R : V → V → Hp → Prop} {Z : Addr → Prop} {μ : Mu} {δ : S2} {w : W2} {q : D → D → Mu → Prop}
    (ok : OkM K Z H μ) (rs : RepS K Z H δ σ) (wk : WK K Z H μ W w) (ht : ta δ μ (fun x μ1 => tb δ μ1 (fun y μ2 => q x y μ2) w) w)
    (k : ∀ x y H' Z' dx dy μ', OkM K Z' H' μ' → Ext Z H μ Z' H' μ' → Rep K Z' H' dx x → Rep K Z' H' dy y → q dx dy μ' → R x y H') :
    LE K W ta σ H fun x H1 => LE K W tb σ H1 fun y H2 => R x y H2 :=
  ⟨Z, μ, δ, _, w, ok, rs, wk, ht, fun v H1 Z1 d μ1 ok1 x1 r1 h1 => ⟨Z1, μ1, δ, _, w, ok1, rs.ext x1 _ _, wk.on x1, h1, fun u H2 Z2 d2 μ2 ok2 x2 r2 h2 =>
    k v u H2 Z2 d d2 μ2 ok2 (x1.trans x2) (r1.ext x2 _ _) r2 h2⟩⟩
section
variable {X : Cx} {W : WX} {pos : Pos} {a b : Expr} {ta tb : TE2}
theorem d_op {op : Operator} {r : R2D} (ho : OpD X (binaryOp op) r) (ha : DE X W a ta) (hb : DE X W b tb) : DE X W (.BinOp a op b pos) (rOp r ta tb) := by
  obtain ⟨r', h1, h2⟩ := ho
  exact pe_imp (pe_op h1 ha hb) fun σ H Q ⟨Z, μ, δ, q, w, ok, rs, wk, ht, k⟩ => le_bin ok rs wk ht fun x y H' Z' dx dy μ' ok' x' rx ry hr =>
    h2 Z' H' μ' x y dx dy Q q ok' rx ry hr (Kon.on k x')
theorem d_cmp {op : CmpOp} {r : R2D} (ho : OpD X (compareOp op) r) (ha : DE X W a ta) (hb : DE X W b tb) (hm : behindInMarks op b = false) : DE X W (.Compare a [op] [b] pos) (rOp r ta tb) := by
  obtain ⟨r', h1, h2⟩ := ho
  exact pe_imp (pe_cmpR h1 ha hb hm) fun σ H Q ⟨Z, μ, δ, q, w, ok, rs, wk, ht, k⟩ => le_bin ok rs wk ht fun x y H' Z' dx dy μ' ok' x' rx ry hr =>
    h2 Z' H' μ' x y dx dy Q q ok' rx ry hr (Kon.on k x')
/-- a reading of a value as a test: what must be a truth -/
def rTest (t : TE2) : TT2 := fun δ μ q w => t δ μ (fun d μ1 => match d with | .bl k => q k μ1 | _ => False) w
theorem dt_cmp {op : CmpOp} {r : R2D} (ho : OpD X (compareOp op) r) (ha : DE X W a ta) (hb : DE X W b tb) (hm : behindInMarks op b = false) : DT X W (.Compare a [op] [b] pos) (rTest (rOp r ta tb)) := by
  obtain ⟨r', h1, h2⟩ := ho
  exact pt_imp (pt_cmpR h1 ha hb hm) fun σ H Q ⟨Z, μ, δ, q, w, ok, rs, wk, ht, k⟩ => le_bin ok rs wk ht fun x y H' Z' dx dy μ' ok' x' rx ry hr =>
    h2 Z' H' μ' x y dx dy _ _ ok' rx ry hr fun v H2 Z2 d μ2 ok2 x2 r2 hd => by
      cases d with
      | bl c => cases r2; exact ⟨c, rfl, k c H2 Z2 μ2 ok2 (x'.trans x2) hd⟩
      | _ => exact hd.elim
theorem dt_val {e : Expr} {t : TE2} (h : DE X W e t) (he : ∀ whole, isTrue e X.env whole = (do let v ← whole; standAt e.pos; holding [v] (truthy v)) := by intro _; rfl) : DT X W e (rTest t) :=
  pt_imp (pt_val h he) fun σ H Q ⟨Z, μ, δ, q, w, ok, rs, wk, ht, k⟩ => ⟨Z, μ, δ, _, w, ok, rs, wk, ht, fun v H2 Z2 d μ2 ok2 x2 r2 hd => by
      cases d with
      | bl c => cases r2; exact ⟨c, rfl, k c H2 Z2 μ2 ok2 x2 hd⟩
      | _ => exact hd.elim⟩
end

/-! ### and, or, not, if -/
def rAndT (t u : TT2) : TT2 := fun δ μ q w => t δ μ (fun c μ1 => if c = true then u δ μ1 q w else q false μ1) w
def rOrT (t u : TT2) : TT2 := fun δ μ q w => t δ μ (fun c μ1 => if c = true then q true μ1 else u δ μ1 q w) w
def rNotT (t : TT2) : TT2 := fun δ μ q w => t δ μ (fun c μ1 => q (!c) μ1) w
def rAndV (t u : TE2) : TE2 := fun δ μ q w => t δ μ (fun d μ1 => match d with | .bl c => (if c = true then u δ μ1 q w else q (.bl false) μ1) | _ => False) w
def rOrV (t u : TE2) : TE2 := fun δ μ q w => t δ μ (fun d μ1 => match d with | .bl c => (if c = true then q (.bl true) μ1 else u δ μ1 q w) | _ => False) w
def rNotV (t : TE2) : TE2 := fun δ μ q w => t δ μ (fun d μ1 => match d with | .bl c => q (.bl (!c)) μ1 | _ => False) w
def rIf (t : TT2) (ta tb : TE2) : TE2 := fun δ μ q w => t δ μ (fun c μ1 => if c = true then ta δ μ1 q w else tb δ μ1 q w) w
section
variable {X : Cx} {W : WX} {pos : Pos} {a b c : Expr} {rest : List Expr} {ta tb : TE2} {tA tB' : TT2}
abbrev DW (X : Cx) (W : WX) (e : Expr) (t : TT2) : Prop := PW X e (LT X.K W t)
theorem dw_and1 (ha : DT X W a tA) : DW X W (.BoolOp .And [a] pos) tA := pw_and1 ha
theorem dw_or1 (ha : DT X W a tA) : DW X W (.BoolOp .Or [a] pos) tA := pw_or1 ha
theorem dw_and (ha : DT X W a tA) (hb : DW X W (.BoolOp .And (b :: rest) pos) tB') : DW X W (.BoolOp .And (a :: b :: rest) pos) (rAndT tA tB') :=
  pw_imp (pw_and ha hb) fun σ H Q ⟨Z, μ, δ, q, w, ok, rs, wk, ht, k⟩ => ⟨Z, μ, δ, _, w, ok, rs, wk, ht, fun c H1 Z1 μ1 ok1 x1 hc => by
    cases c with
    | true => exact ⟨Z1, μ1, δ, q, w, ok1, rs.ext x1 _ _, wk.on x1, hc, fun b H2 Z2 μ2 ok2 x2 h2 => k b H2 Z2 μ2 ok2 (x1.trans x2) h2⟩
    | false => exact k false H1 Z1 μ1 ok1 x1 hc⟩
theorem dw_or (ha : DT X W a tA) (hb : DW X W (.BoolOp .Or (b :: rest) pos) tB') : DW X W (.BoolOp .Or (a :: b :: rest) pos) (rOrT tA tB') :=
  pw_imp (pw_or ha hb) fun σ H Q ⟨Z, μ, δ, q, w, ok, rs, wk, ht, k⟩ => ⟨Z, μ, δ, _, w, ok, rs, wk, ht, fun c H1 Z1 μ1 ok1 x1 hc => by
    cases c with
    | true => exact k true H1 Z1 μ1 ok1 x1 hc
    | false => exact ⟨Z1, μ1, δ, q, w, ok1, rs.ext x1 _ _, wk.on x1, hc, fun b H2 Z2 μ2 ok2 x2 h2 => k b H2 Z2 μ2 ok2 (x1.trans x2) h2⟩⟩
theorem dw_t (h : DW X W a tA) : DT X W a tA := h.pt
theorem dt_not (ha : DT X W a tA) : DT X W (.UnaryOp .Not a pos) (rNotT tA) :=
  pt_imp (pt_not ha) fun σ H Q ⟨Z, μ, δ, q, w, ok, rs, wk, ht, k⟩ => ⟨Z, μ, δ, _, w, ok, rs, wk, ht, fun c H1 Z1 μ1 ok1 x1 hc => k _ H1 Z1 μ1 ok1 x1 hc⟩
theorem de_one {op} {t : TE2} (h : DE X W a t) : DE X W (.BoolOp op [a] pos) t := pe_one h
theorem de_and (ha : DE X W a ta) (hb : DE X W (.BoolOp .And (b :: rest) pos) tb) : DE X W (.BoolOp .And (a :: b :: rest) pos) (rAndV ta tb) :=
  pe_imp (pe_and ha hb) fun σ H Q ⟨Z, μ, δ, q, w, ok, rs, wk, ht, k⟩ => ⟨Z, μ, δ, _, w, ok, rs, wk, ht, fun v H1 Z1 d μ1 ok1 x1 r1 hc => by
    cases d with
    | bl c =>
      cases r1
      refine ⟨c, rfl, ?_⟩
      cases c with
      | true => exact ⟨Z1, μ1, δ, q, w, ok1, rs.ext x1 _ _, wk.on x1, hc, Kon.on k x1⟩
      | false => exact k _ H1 Z1 (.bl false) μ1 ok1 x1 rfl hc
    | _ => exact hc.elim⟩
theorem de_or (ha : DE X W a ta) (hb : DE X W (.BoolOp .Or (b :: rest) pos) tb) : DE X W (.BoolOp .Or (a :: b :: rest) pos) (rOrV ta tb) :=
  pe_imp (pe_or ha hb) fun σ H Q ⟨Z, μ, δ, q, w, ok, rs, wk, ht, k⟩ => ⟨Z, μ, δ, _, w, ok, rs, wk, ht, fun v H1 Z1 d μ1 ok1 x1 r1 hc => by
    cases d with
    | bl c =>
      cases r1
      refine ⟨c, rfl, ?_⟩
      cases c with
      | true => exact k _ H1 Z1 (.bl true) μ1 ok1 x1 rfl hc
      | false => exact ⟨Z1, μ1, δ, q, w, ok1, rs.ext x1 _ _, wk.on x1, hc, Kon.on k x1⟩
    | _ => exact hc.elim⟩
theorem de_not (ha : DE X W a ta) : DE X W (.UnaryOp .Not a pos) (rNotV ta) :=
  pe_imp (pe_not ha) fun σ H Q ⟨Z, μ, δ, q, w, ok, rs, wk, ht, k⟩ => ⟨Z, μ, δ, _, w, ok, rs, wk, ht, fun v H1 Z1 d μ1 ok1 x1 r1 hc => by
    cases d with
    | bl c => cases r1; exact ⟨c, rfl, k _ H1 Z1 (.bl (!c)) μ1 ok1 x1 rfl hc⟩
    | _ => exact hc.elim⟩
theorem de_if (hc : DT X W c tA) (ha : DE X W a ta) (hb : DE X W b tb) : DE X W (.IfExp c a b pos) (rIf tA ta tb) :=
  pe_imp (pe_ifExp hc ha hb) fun σ H Q ⟨Z, μ, δ, q, w, ok, rs, wk, ht, k⟩ => ⟨Z, μ, δ, _, w, ok, rs, wk, ht, fun c H1 Z1 μ1 ok1 x1 hc => by
    cases c with
    | true => exact ⟨Z1, μ1, δ, q, w, ok1, rs.ext x1 _ _, wk.on x1, hc, Kon.on k x1⟩
    | false => exact ⟨Z1, μ1, δ, q, w, ok1, rs.ext x1 _ _, wk.on x1, hc, Kon.on k x1⟩⟩
end

/-! ### statements -/
def rSeq (t u : TS2) : TS2 := fun E δ μ => t { E with nx := u E } δ μ
def rNext : TS2 := fun E δ μ => E.nx δ μ
def rBreak : TS2 := fun E δ μ => E.bk δ μ
def rCont : TS2 := fun E δ μ => E.ct δ μ
def rDrop (te : TE2) : TS2 := fun E δ μ => te δ μ (fun _ μ1 => E.nx δ μ1) E.ex
def rRet (te : TE2) : TS2 := fun E δ μ => te δ μ E.rt E.ex
def rRetN : TS2 := fun E _ μ => E.rt .non μ
def rIfS (c : TT2) (t u : TS2) : TS2 := fun E δ μ => c δ μ (fun b μ1 => if b = true then t E δ μ1 else u E δ μ1) E.ex
def rSet (i : Nat) (te : TE2) : TS2 := fun E δ μ => te δ μ (fun d μ1 => E.nx (δ.set i (some d)) μ1) E.ex
section
variable {X : Cx} {W : WX} {pos : Pos} {st : Stmt} {rest a b : List Stmt} {t u : TS2} {e c : Expr} {te : TE2} {tc : TT2}
theorem ds_nil : DSs X W [] rNext := pss_imp pss_nil fun D σ H ⟨Z, μ, δ, E, ok, rs, wk, ht, k, _⟩ => (k σ H Z δ μ ok Ext.refl rs).1 ht
theorem ds_cons (h1 : DS X W st t) (h2 : DSs X W rest u) : DSs X W (st :: rest) (rSeq t u) :=
  pss_imp (pss_cons h1 h2) fun D σ H ⟨Z, μ, δ, E, ok, rs, wk, ht, k, kr⟩ => ⟨Z, μ, δ, { E with nx := u E }, ok, rs, wk, ht, fun σ1 H1 Z1 δ1 μ1 ok1 x1 r1 =>
    ⟨fun h => ⟨Z1, μ1, δ1, E, ok1, r1, wk.on x1, h, fun σ2 H2 Z2 δ2 μ2 ok2 x2 r2 => k σ2 H2 Z2 δ2 μ2 ok2 (x1.trans x2) r2, Kon.on kr x1⟩, (k σ1 H1 Z1 δ1 μ1 ok1 x1 r1).2.1, (k σ1 H1 Z1 δ1 μ1 ok1 x1 r1).2.2⟩, kr⟩
theorem ds_one (h1 : DS X W st t) : DSs X W [st] t := pss_one h1
theorem ds_pass : DS X W (.Pass pos) rNext := ps_imp ps_pass fun D σ H ⟨Z, μ, δ, E, ok, rs, wk, ht, k, _⟩ => (k σ H Z δ μ ok Ext.refl rs).1 ht
theorem ds_break : DS X W (.Break pos) rBreak := ps_imp ps_break fun D σ H ⟨Z, μ, δ, E, ok, rs, wk, ht, k, _⟩ => (k σ H Z δ μ ok Ext.refl rs).2.1 ht
theorem ds_cont : DS X W (.Continue pos) rCont := ps_imp ps_continue fun D σ H ⟨Z, μ, δ, E, ok, rs, wk, ht, k, _⟩ => (k σ H Z δ μ ok Ext.refl rs).2.2 ht
theorem ds_expr (he : DE X W e te) (hs : swapsWith e none pos.line X.env = pure false := by rfl) : DS X W (.Expr e pos) (rDrop te) :=
  ps_imp (ps_expr he hs) fun D σ H ⟨Z, μ, δ, E, ok, rs, wk, ht, k, _⟩ => ⟨Z, μ, δ, _, E.ex, ok, rs, wk, ht, fun v H1 Z1 d μ1 ok1 x1 r1 h1 => (k σ H1 Z1 δ μ1 ok1 x1 (rs.ext x1 _ _)).1 h1⟩
theorem ds_ret (he : DE X W e te) : DS X W (.Return (some e) pos) (rRet te) :=
  ps_imp (ps_ret he) fun D σ H ⟨Z, μ, δ, E, ok, rs, wk, ht, _, kr⟩ => ⟨Z, μ, δ, _, E.ex, ok, rs, wk, ht, kr⟩
theorem ds_retN : DS X W (.Return none pos) rRetN :=
  ps_imp ps_retN fun D σ H ⟨Z, μ, δ, E, ok, rs, wk, ht, _, kr⟩ => kr .non H Z .non μ ok Ext.refl rfl ht
theorem ds_if (hc : DT X W c tc) (ha : DSs X W a t) (hb : DSs X W b u) : DS X W (.If c a b pos) (rIfS tc t u) :=
  ps_imp (ps_if hc ha hb) fun D σ H ⟨Z, μ, δ, E, ok, rs, wk, ht, k, kr⟩ => ⟨Z, μ, δ, _, E.ex, ok, rs, wk, ht, fun c H1 Z1 μ1 ok1 x1 hc => by
    cases c with
    | true => exact ⟨Z1, μ1, δ, E, ok1, rs.ext x1 _ _, wk.on x1, hc, fun σ2 H2 Z2 δ2 μ2 ok2 x2 r2 => k σ2 H2 Z2 δ2 μ2 ok2 (x1.trans x2) r2, Kon.on kr x1⟩
    | false => exact ⟨Z1, μ1, δ, E, ok1, rs.ext x1 _ _, wk.on x1, hc, fun σ2 H2 Z2 δ2 μ2 ok2 x2 r2 => k σ2 H2 Z2 δ2 μ2 ok2 (x1.trans x2) r2, Kon.on kr x1⟩⟩
/-- x = e -/
theorem ds_set {i : Nat} {x : Str} {npos : Pos} (hN : X.N.Nodup) (hi : X.N[i]? = some x) (hx : Loc X.env.scope x) (he : DE X W e te) (hf : X.fn x = true ∨ X.env.scope.names.lookup x = some .local := by first | exact .inl rfl | exact .inr rfl | assumption)
    (hs : swapsWithSole [.Name x npos] e pos.line X.env = pure false := by rfl) (hw : swappedStores [.Name x npos] e X.env = pure none := by rfl) (h1 : (assignEach [.Name x npos] X.env).map (·.2) = [assign (.Name x npos) X.env] := by rfl) :
    DS X W (.Assign [.Name x npos] e pos) (rSet i te) :=
  ps_imp (ps_asg he (pg_name hN hi hx hf) hs hw h1) fun D σ H ⟨Z, μ, δ, E, ok, rs, wk, ht, k, _⟩ => ⟨Z, μ, δ, _, E.ex, ok, rs, wk, ht, fun v H1 Z1 d μ1 ok1 x1 r1 h1 =>
    (k _ H1 Z1 _ μ1 ok1 x1 ((rs.ext x1 _ _).set i r1)).1 h1⟩
end
end D2

set_option Elab.async false
set_option linter.all false
set_option maxRecDepth 100000
set_option maxHeartbeats 2000000
namespace D2
open PySem PySem.Spec PyProof.Rows L2
abbrev S (a : List Nat) : Str := ⟨a.toArray⟩
theorem S_len (a : List Nat) : (S a).length = a.length := by simp [S, Str.length]
theorem S_app (a b : List Nat) : S a ++ S b = S (a ++ b) := by
  show Str.append _ _ = _
  simp [Str.append, S]
/-! ### lists by values -/
def seqD (μ : Mu) : D → Option (List D)
  | .lst ds => some ds
  | .arg ds => some ds
  | .ref a => match μ a with | some (.ml ds) => some ds | _ => none
  | _ => none
/-- a list that stands by itself -/
def lstD (μ : Mu) : D → Option (List D)
  | .lst ds => some ds
  | .ref a => match μ a with | some (.ml ds) => some ds | _ => none
  | _ => none
def itmD (μ : Mu) : D → Option (List D)
  | .tup ds => some ds
  | d => seqD μ d
section
variable {K : PySem.W.Frag} {Z : Addr → Prop} {H : Hp} {μ : Mu}
theorem seqD_ok {d : D} {v : V} {ds : List D} (ok : OkM K Z H μ) (r : Rep K Z H d v) (e : seqD μ d = some ds) : ∃ a xs, v = .ref a ∧ SqL K H a xs ∧ RepL K Z H ds xs := by
  cases d with
  | lst es => cases e; obtain ⟨a, xs, h1, h2, h3⟩ := r; exact ⟨a, xs, h1, h2.sq, h3⟩
  | arg es => cases e; obtain ⟨a, xs, h1, h2, h3⟩ := r; exact ⟨a, xs, h1, h2.sq, h3⟩
  | ref a =>
    unfold seqD at e
    dsimp only at e
    split at e
    · rename_i es he
      cases e
      obtain ⟨xs, h1, h2⟩ := (ok.ob a _ he).2
      exact ⟨a, xs, r, SqL.of h1, h2⟩
    · cases e
  | _ => cases e
theorem lstD_ok {d : D} {v : V} {ds : List D} (ok : OkM K Z H μ) (r : Rep K Z H d v) (e : lstD μ d = some ds) : ∃ a xs, v = .ref a ∧ H a = some (.lst xs) ∧ RepL K Z H ds xs := by
  cases d with
  | lst es => cases e; obtain ⟨a, xs, h1, h2, h3⟩ := r; exact ⟨a, xs, h1, h2.2, h3⟩
  | ref a =>
    unfold lstD at e
    dsimp only at e
    split at e
    · rename_i es he
      cases e
      obtain ⟨xs, h1, h2⟩ := (ok.ob a _ he).2
      exact ⟨a, xs, r, h1, h2⟩
    · cases e
  | _ => cases e
theorem itmD_ok {d : D} {v : V} {ds : List D} (ok : OkM K Z H μ) (r : Rep K Z H d v) (e : itmD μ d = some ds) : ∃ a xs, v = .ref a ∧ (SqL K H a xs ∨ SqT K H a xs) ∧ RepL K Z H ds xs := by
  cases d with
  | tup es => cases e; obtain ⟨a, xs, h1, h2, h3⟩ := r; exact ⟨a, xs, h1, .inr h2, h3⟩
  | lst es => obtain ⟨a, xs, h1, h2, h3⟩ := seqD_ok ok r (show seqD μ (.lst es) = some ds from e); exact ⟨a, xs, h1, .inl h2, h3⟩
  | arg es => obtain ⟨a, xs, h1, h2, h3⟩ := seqD_ok ok r (show seqD μ (.arg es) = some ds from e); exact ⟨a, xs, h1, .inl h2, h3⟩
  | ref a => obtain ⟨a, xs, h1, h2, h3⟩ := seqD_ok ok r (show seqD μ (.ref a) = some ds from e); exact ⟨a, xs, h1, .inl h2, h3⟩
  | _ => cases e
end
theorem opd_or {X : Cx} {f : Value → Value → Sem Value} {r r' : R2} {q : R2D} (h : OpR X f r) (h' : OpR X f r')
    (k : ∀ (Z : Addr → Prop) (H : Hp) (μ : Mu) (x y : V) (dx dy : D) (Q : VK) (p : Q2), OkM X.K Z H μ → Rep X.K Z H dx x → Rep X.K Z H dy y → q dx dy μ p → Kon X.K Z H μ Q p → r x y H Q ∨ r' x y H Q) : OpD X f q := ⟨_, h.or h', k⟩

/-! ### + - * // % ** -/
def addD (m : Bool) : R2D := fun x y μ q => match x, y with
  | .int i, .int j => q (.int (i + j)) μ
  | .str a, .str b => a.length + b.length ≤ sizeLine ∧ q (.str (a ++ b)) μ
  | .tup a, .tup b => a.length + b.length ≤ sizeLine ∧ q (.tup (a ++ b)) μ
  | x, y => match lstD μ x, lstD μ y with
    | some a, some b => a.length + b.length ≤ sizeLine ∧ newL m (a ++ b) μ q
    | _, _ => False
section
variable {X : Cx}
theorem addD_lst {m : Bool} {x y : D} {μ : Mu} {q : Q2} (h : addD m x y μ q) (h1 : ∀ i j, ¬ (x = .int i ∧ y = .int j)) (h2 : ∀ i j, ¬ (x = .str i ∧ y = .str j)) (h3 : ∀ i j, ¬ (x = .tup i ∧ y = .tup j)) :
    ∃ a b, lstD μ x = some a ∧ lstD μ y = some b ∧ a.length + b.length ≤ sizeLine ∧ newL m (a ++ b) μ q := by
  unfold addD at h
  split at h
  · exact (h1 _ _ ⟨rfl, rfl⟩).elim
  · exact (h2 _ _ ⟨rfl, rfl⟩).elim
  · exact (h3 _ _ ⟨rfl, rfl⟩).elim
  · split at h
    · rename_i a b e1 e2
      exact ⟨a, b, e1, e2, h⟩
    · exact h.elim
theorem d_add (m : Bool) : OpD X (binaryOp .Add) (addD m) := by
  refine ⟨_, op_add.or (op_add_str.or (op_catA.or op_cat)), fun Z H μ x y dx dy Q q ok rx ry h k => ?_⟩
  by_cases h1 : ∃ i j, dx = .int i ∧ dy = .int j
  · obtain ⟨i, j, rfl, rfl⟩ := h1
    exact .inl ⟨i, j, rx, ry, k _ H Z (.int (i + j)) μ ok Ext.refl rfl h⟩
  by_cases h2 : ∃ i j, dx = .str i ∧ dy = .str j
  · obtain ⟨i, j, rfl, rfl⟩ := h2
    refine .inr (.inl ⟨_, _, rx, ry, ?_, ?_⟩)
    · have := h.1
      rw [S_len, S_len]; exact this
    · rw [S_app]
      exact k _ H Z (.str (i ++ j)) μ ok Ext.refl rfl h.2
  by_cases h3 : ∃ i j, dx = .tup i ∧ dy = .tup j
  · obtain ⟨i, j, rfl, rfl⟩ := h3
    obtain ⟨a, xs, e1, t1, r1⟩ := rx
    obtain ⟨b, ys, e2, t2, r2⟩ := ry
    have hz : xs.length + ys.length ≤ sizeLine := by rw [← r1.length, ← r2.length]; exact h.1
    refine .inr (.inr (.inl ⟨a, b, xs, ys, e1, e2, t1, t2, hz, fun n => ?_, fun n n' => ?_, fun n n' p np => ?_⟩))
    · refine k _ H Z (.tup (i ++ j)) μ ok Ext.refl (show Rep X.K Z H (.tup (i ++ j)) _ from ⟨b, ys, rfl, t2, ?_⟩) h.2
      have := r1.append r2
      rw [n] at this; exact this
    · refine k _ H Z (.tup (i ++ j)) μ ok Ext.refl (show Rep X.K Z H (.tup (i ++ j)) _ from ⟨a, xs, rfl, t1, ?_⟩) h.2
      have := r1.append r2
      rw [n', List.append_nil] at this; exact this
    · exact newT_ok ok (r1.append r2) h.2 k p np
  obtain ⟨a, b, e1, e2, hz, h⟩ := addD_lst h (fun i j z => h1 ⟨i, j, z⟩) (fun i j z => h2 ⟨i, j, z⟩) (fun i j z => h3 ⟨i, j, z⟩)
  obtain ⟨l, xs, v1, t1, r1⟩ := lstD_ok ok rx e1
  obtain ⟨l2, ys, v2, t2, r2⟩ := lstD_ok ok ry e2
  exact .inr (.inr (.inr ⟨l, l2, xs, ys, v1, v2, t1, t2, by rw [← r1.length, ← r2.length]; exact hz, fun p np => newL_ok ok (r1.append r2) h k p np⟩))
/-- an operation of two ints -/
def intO (C : Int → Int → Prop) (g : Int → Int → D) : R2D := fun x y μ q => match x, y with
  | .int i, .int j => C i j ∧ q (g i j) μ
  | _, _ => False
theorem d_int2 {f : Value → Value → Sem Value} {C : Int → Int → Prop} {g : Int → Int → V} {g' : Int → Int → D} (h : OpR X f (rI C g)) (e : ∀ Z H i j, Rep X.K Z H (g' i j) (g i j)) : OpD X f (intO C g') := by
  refine ⟨_, h, fun Z H μ x y dx dy Q q ok rx ry h k => ?_⟩
  unfold intO at h
  split at h
  · rename_i i j
    exact ⟨i, j, rx, ry, h.1, k _ H Z _ μ ok Ext.refl (e Z H i j) h.2⟩
  · exact h.elim
def intD0 (g : Int → Int → D) : R2D := fun x y μ q => match x, y with
  | .int i, .int j => q (g i j) μ
  | _, _ => False
theorem d_int0 {f : Value → Value → Sem Value} {g : Int → Int → V} {g' : Int → Int → D} (h : OpR X f (rI0 g)) (e : ∀ Z H i j, Rep X.K Z H (g' i j) (g i j)) : OpD X f (intD0 g') := by
  refine ⟨_, h, fun Z H μ x y dx dy Q q ok rx ry h k => ?_⟩
  unfold intD0 at h
  split at h
  · rename_i i j
    exact ⟨i, j, rx, ry, k _ H Z _ μ ok Ext.refl (e Z H i j) h⟩
  · exact h.elim
theorem d_sub : OpD X (binaryOp .Sub) (intD0 fun i j => .int (i - j)) := d_int0 op_sub fun _ _ _ _ => rfl
theorem d_fdiv : OpD X (binaryOp .FloorDiv) (intO CDivW fun i j => .int (i / j)) := d_int2 op_fdivW fun _ _ _ _ => rfl
theorem d_mod : OpD X (binaryOp .Mod) (intO (fun _ j => 0 < j) fun i j => .int (i % j)) := d_int2 op_mod fun _ _ _ _ => rfl
theorem d_pow : OpD X (binaryOp .Pow) (intO CPow fun i j => .int (i ^ j.toNat)) := d_int2 op_pow fun _ _ _ _ => rfl
/-- text * int: few -/
def repS (x : List Nat) (n : Int) : List Nat := (List.replicate n.toNat x).flatten
theorem foldl_app (x : Array Nat) : ∀ (k : Nat) (acc : Array Nat), ((List.replicate k x).foldl (· ++ ·) acc).toList = acc.toList ++ (List.replicate k x.toList).flatten
  | 0, acc => by simp
  | k + 1, acc => by
    rw [List.replicate_succ, List.foldl_cons, foldl_app x k, List.replicate_succ, List.flatten_cons]
    simp
theorem mul_repS (x : List Nat) (n : Int) : Txt.mul (S x) n = S (repS x n) := by
  apply TL.ext_tl
  show (Txt.mul (S x) n).cps.toList = repS x n
  unfold Txt.mul repS
  by_cases h : n < 1
  · rw [if_pos h]
    have : n.toNat = 0 := by omega
    rw [this]; rfl
  · rw [if_neg h]
    by_cases h2 : (n == 1 || (S x).length == 0) = true
    · rw [if_pos h2]
      rw [Bool.or_eq_true] at h2
      rcases h2 with h2 | h2
      · have e : n = 1 := eq_of_beq h2
        subst e; simp
      · have e : x = [] := by
          have := eq_of_beq h2
          rw [S_len] at this
          exact List.length_eq_zero_iff.mp this
        subst e; simp
    · rw [if_neg h2]
      rw [foldl_app]; simp
def mulD : R2D := fun x y μ q => match x, y with
  | .int i, .int j => CMul i j ∧ q (.int (i * j)) μ
  | .str a, .int n => (a.length ≤ 4096 ∧ -(2 ^ 63) ≤ n ∧ n ≤ 4096) ∧ q (.str (repS a n)) μ
  | _, _ => False
theorem op_rep_str : OpR X (binaryOp .Mult) (fun x y H Q => ∃ (a : List Nat) (n : Int), x = .str (S a) ∧ y = .int n ∧ (a.length ≤ 4096 ∧ -(2 ^ 63) ≤ n ∧ n ≤ 4096) ∧ Q (.str (S (repS a n))) H) := by
  intro pins s σ H x y v u Q I rx ry h
  obtain ⟨a, n, rfl, rfl, ⟨h1, h2, h3⟩, q⟩ := h
  obtain ⟨t, rfl⟩ := rx
  obtain ⟨t', rfl⟩ := ry
  refine SB.mul (mulOk_of 4096 4096 (by rw [S_len]; exact h1) h3 h2 (by decide) (by decide)) fun t' k => ?_
  rw [mul_repS]
  exact ⟨.str _, H, I.tok _, ⟨_, rfl⟩, q⟩
theorem d_mul : OpD X (binaryOp .Mult) mulD := by
  refine ⟨_, op_mul.or op_rep_str, fun Z H μ x y dx dy Q q ok rx ry h k => ?_⟩
  unfold mulD at h
  split at h
  · rename_i i j
    exact .inl ⟨i, j, rx, ry, h.1, k _ H Z (.int (i * j)) μ ok Ext.refl rfl h.2⟩
  · rename_i a n
    exact .inr ⟨a, n, rx, ry, h.1, k _ H Z (.str (repS a n)) μ ok Ext.refl rfl h.2⟩
  · exact h.elim

/-! ### comparisons -/
theorem d_lt : OpD X (compareOp .Lt) (intD0 fun i j => .bl (decide (i < j))) := d_int0 op_lt fun _ _ _ _ => rfl
theorem d_le : OpD X (compareOp .LtE) (intD0 fun i j => .bl (decide (i ≤ j))) := d_int0 op_le fun _ _ _ _ => rfl
theorem d_gt : OpD X (compareOp .Gt) (intD0 fun i j => .bl (decide (j < i))) := d_int0 op_gt fun _ _ _ _ => rfl
theorem d_ge : OpD X (compareOp .GtE) (intD0 fun i j => .bl (decide (j ≤ i))) := d_int0 op_ge fun _ _ _ _ => rfl
/-- texts -/
def leS (a b : List Nat) : Bool := decide (¬ b < a)
end
mutual
/-- as the library's data -/
def toPy : D → PyData
  | .non => .none
  | .bl b => .bool b
  | .int i => .int i
  | .str x => .str (S x)
  | .tup ds => .tuple (toPyL ds)
  | .lst ds => .list (toPyL ds)
  | _ => .none
def toPyL : List D → List PyData
  | [] => []
  | d :: ds => toPy d :: toPyL ds
end
mutual
/-- nothing but data; its texts' signs are signs, and it is no deeper than n -/
def okD : Nat → D → Bool
  | _, .non => true
  | _, .bl _ => true
  | _, .int _ => true
  | _, .str x => x.all (· < 0x110000)
  | n + 1, .tup ds => okL n ds
  | n + 1, .lst ds => okL n ds
  | _, _ => false
def okL : Nat → List D → Bool
  | _, [] => true
  | n, d :: ds => okD n d && okL n ds
end
mutual
theorem okD_lay : ∀ (n : Nat) (d : D), okD n d = true → (toPy d).canLay0 = true ∧ (toPy d).depth ≤ n
  | _, .non, _ => ⟨by simp [toPy, PyData.canLay0], by simp [toPy, PyData.depth]⟩
  | _, .bl _, _ => ⟨by simp [toPy, PyData.canLay0], by simp [toPy, PyData.depth]⟩
  | _, .int _, _ => ⟨by simp [toPy, PyData.canLay0], by simp [toPy, PyData.depth]⟩
  | _, .str x, h => ⟨by
      have h' : x.all (· < 0x110000) = true := by simpa [okD] using h
      simpa [toPy, PyData.canLay0, PyData.strOk, S] using h', by simp [toPy, PyData.depth]⟩
  | n + 1, .tup ds, h => by
    have h' : okL n ds = true := by simpa [okD] using h
    obtain ⟨h1, h2⟩ := okL_lay n ds h'
    exact ⟨by simpa [toPy, PyData.canLay0] using h1, by simp only [toPy, PyData.depth]; omega⟩
  | n + 1, .lst ds, h => by
    have h' : okL n ds = true := by simpa [okD] using h
    obtain ⟨h1, h2⟩ := okL_lay n ds h'
    exact ⟨by simpa [toPy, PyData.canLay0] using h1, by simp only [toPy, PyData.depth]; omega⟩
  | 0, .tup _, h => by simp [okD] at h
  | 0, .lst _, h => by simp [okD] at h
  | _, .arg _, h => by simp [okD] at h
  | _, .ref _, h => by simp [okD] at h
  | _, .opq _, h => by simp [okD] at h
  | _, .bt _, h => by simp [okD] at h
theorem okL_lay : ∀ (n : Nat) (ds : List D), okL n ds = true → PyData.canLayAll0 (toPyL ds) = true ∧ PyData.depthAll (toPyL ds) ≤ n
  | _, [], _ => ⟨by simp [toPyL, PyData.canLayAll0], by simp [toPyL, PyData.depthAll]⟩
  | n, d :: ds, h => by
    have h' : okD n d = true ∧ okL n ds = true := by simpa [okL] using h
    obtain ⟨a1, a2⟩ := okD_lay n d h'.1
    obtain ⟨b1, b2⟩ := okL_lay n ds h'.2
    exact ⟨by simp [toPyL, PyData.canLayAll0, a1, b1], by simp only [toPyL, PyData.depthAll]; omega⟩
end
theorem okD_shaped {d : D} (h : okD 64 d = true) : SeqAt.shaped (toPy d) = true := by
  obtain ⟨h1, h2⟩ := okD_lay 64 d h
  unfold SeqAt.shaped
  rw [h1]
  simpa using h2
section
variable {K : PySem.W.Frag} {Z : Addr → Prop} {H : Hp}
mutual
theorem rep_dp : ∀ (n : Nat) (d : D) (v : V), okD n d = true → Rep K Z H d v → Dp K H v (toPy d)
  | _, .non, _, _, r => by cases r; simp only [toPy]; exact .non
  | _, .bl b, _, _, r => by cases r; simp only [toPy]; exact .bl b
  | _, .int i, _, _, r => by cases r; simp only [toPy]; exact .int i
  | _, .str x, _, _, r => by cases r; simp only [toPy]; exact .str _
  | n + 1, .tup ds, v, h, r => by
    obtain ⟨a, xs, rfl, h2, h3⟩ := r
    have h' : okL n ds = true := by simpa [okD] using h
    simp only [toPy]
    exact .tup h2 (rep_dpL n ds xs h' h3)
  | n + 1, .lst ds, v, h, r => by
    obtain ⟨a, xs, rfl, h2, h3⟩ := r
    have h' : okL n ds = true := by simpa [okD] using h
    simp only [toPy]
    exact .lst h2.sq (rep_dpL n ds xs h' h3)
  | 0, .tup _, _, h, _ => by simp [okD] at h
  | 0, .lst _, _, h, _ => by simp [okD] at h
  | _, .arg _, _, h, _ => by simp [okD] at h
  | _, .ref _, _, h, _ => by simp [okD] at h
  | _, .opq _, _, h, _ => by simp [okD] at h
  | _, .bt _, _, h, _ => by simp [okD] at h
theorem rep_dpL : ∀ (n : Nat) (ds : List D) (vs : List V), okL n ds = true → RepL K Z H ds vs → DpAll K H vs (toPyL ds)
  | _, [], vs, _, r => by cases (show vs = [] from r); simp only [toPyL]; exact .nil
  | n, d :: ds, vs, h, r => by
    obtain ⟨v, t, rfl, r1, r2⟩ := r
    have h' : okD n d = true ∧ okL n ds = true := by simpa [okL] using h
    simp only [toPyL]
    exact .cons (rep_dp n d v h'.1 r1) (rep_dpL n ds t h'.2 r2)
end
end
/-- a list that may be changed, as it stands -/
def seeD (μ : Mu) : D → D
  | .ref a => match μ a with | some (.ml ds) => .lst ds | _ => .ref a
  | d => d
theorem see_dp {K : PySem.W.Frag} {Z : Addr → Prop} {H : Hp} {μ : Mu} (ok : OkM K Z H μ) {d : D} {v : V} (h : okD 64 (seeD μ d) = true) (r : Rep K Z H d v) : Dp K H v (toPy (seeD μ d)) := by
  cases d with
  | ref a =>
    unfold seeD at h ⊢
    dsimp only at h ⊢
    split at h
    · rename_i ds e
      obtain ⟨xs, h1, h2⟩ := (ok.ob a _ e).2
      have h' : okL 63 ds = true := by simpa [okD] using h
      rw [show v = V.ref a from r]
      simp only [toPy]
      exact .lst (SqL.of h1) (rep_dpL 63 ds xs h' h2)
    · simp [okD] at h
  | _ => exact rep_dp 64 _ v h r
/-- == of data -/
def eqD : D → D → Bool
  | .str a, .str b => decide (a = b)
  | .int a, .int b => decide (a = b)
  | .bl a, .bl b => decide (a = b)
  | x, y => PyData.eqv (toPy x) (toPy y)
def eqOk (x y : D) : Prop := match x, y with
  | .str _, .str _ => True
  | .int _, .int _ => True
  | .bl _, .bl _ => True
  | .non, .str _ => True
  | .str _, .non => True
  | x, y => okD 64 x = true ∧ okD 64 y = true
def eqR (neg : Bool) : R2D := fun x y μ q => eqOk (seeD μ x) (seeD μ y) ∧ q (.bl (if neg then !eqD (seeD μ x) (seeD μ y) else eqD (seeD μ x) (seeD μ y))) μ
theorem S_inj {a b : List Nat} (h : S a = S b) : a = b := by
  have := congrArg (fun s : Str => s.cps.toList) h
  simpa [S] using this
theorem dec_S (a b : List Nat) : decide (V.str (S a) = V.str (S b)) = decide (a = b) := by
  by_cases h : a = b
  · subst h; simp
  · rw [decide_eq_false h, decide_eq_false fun z => h (S_inj (V.str.inj z))]
theorem eqD_py {x y : D} (h : okD 64 x = true) (h' : okD 64 y = true) : eqD x y = PyData.eqv (toPy x) (toPy y) := by
  unfold eqD
  split
  · rename_i a b
    simp only [toPy, PyData.eqv]
    by_cases e : a = b
    · subst e; simp
    · rw [decide_eq_false e]
      exact (beq_eq_false_iff_ne.mpr fun z => e (S_inj z)).symm
  · simp only [toPy, PyData.eqv]; rw [Bool.beq_eq_decide_eq]
  · simp only [toPy, PyData.eqv]; rw [Bool.beq_eq_decide_eq]
  · rfl
section
variable {X : Cx}
theorem eq_cases {neg : Bool} {Z : Addr → Prop} {H : Hp} {μ : Mu} {x y : V} {dx dy : D} {Q : VK} {q : Q2} (ok : OkM X.K Z H μ) (rx : Rep X.K Z H dx x) (ry : Rep X.K Z H dy y) (h : eqR neg dx dy μ q) (k : Kon X.K Z H μ Q q) :
    (scal x y = true ∧ Q (.bl (if neg then !decide (x = y) else decide (x = y))) H) ∨
      ∃ d e, Dp X.K H x d ∧ Dp X.K H y e ∧ SeqAt.shaped d = true ∧ SeqAt.shaped e = true ∧ Q (.bl (if neg then !PyData.eqv d e else PyData.eqv d e)) H := by
  obtain ⟨h1, h2⟩ := h
  have fin : Q (.bl (if neg then !eqD (seeD μ dx) (seeD μ dy) else eqD (seeD μ dx) (seeD μ dy))) H := k _ H Z (.bl _) μ ok Ext.refl rfl h2
  by_cases hs : (∃ a b, dx = .str a ∧ dy = .str b) ∨ (∃ a b, dx = .int a ∧ dy = .int b) ∨ (∃ a b, dx = .bl a ∧ dy = .bl b) ∨ (∃ b, dx = .non ∧ dy = .str b) ∨ (∃ b, dx = .str b ∧ dy = .non)
  · rcases hs with ⟨a, b, rfl, rfl⟩ | ⟨a, b, rfl, rfl⟩ | ⟨a, b, rfl, rfl⟩ | ⟨b, rfl, rfl⟩ | ⟨b, rfl, rfl⟩
    · cases rx; cases ry
      refine .inl ⟨rfl, ?_⟩
      rw [dec_S]; exact fin
    · cases rx; cases ry
      refine .inl ⟨rfl, ?_⟩
      rw [show decide (V.int a = V.int b) = decide (a = b) by simp]; exact fin
    · cases rx; cases ry
      refine .inl ⟨rfl, ?_⟩
      rw [show decide (V.bl a = V.bl b) = decide (a = b) by simp]; exact fin
    · cases rx; cases ry
      exact .inl ⟨rfl, by simpa [seeD, eqD, toPy, PyData.eqv] using fin⟩
    · cases rx; cases ry
      exact .inl ⟨rfl, by simpa [seeD, eqD, toPy, PyData.eqv] using fin⟩
  · have hok : okD 64 (seeD μ dx) = true ∧ okD 64 (seeD μ dy) = true := by
      unfold eqOk at h1
      split at h1
      · rename_i a b e1 e2
        have e1' : dx = .str a := by
          cases dx with
          | ref c => unfold seeD at e1; dsimp only at e1; split at e1 <;> cases e1
          | _ => exact e1
        have e2' : dy = .str b := by
          cases dy with
          | ref c => unfold seeD at e2; dsimp only at e2; split at e2 <;> cases e2
          | _ => exact e2
        exact (hs (.inl ⟨a, b, e1', e2'⟩)).elim
      · rename_i a b e1 e2
        exact ⟨by rw [e1]; rfl, by rw [e2]; rfl⟩
      · rename_i a b e1 e2
        exact ⟨by rw [e1]; rfl, by rw [e2]; rfl⟩
      · rename_i a e1 e2
        have e1' : dx = .non := by
          cases dx with
          | ref c => unfold seeD at e1; dsimp only at e1; split at e1 <;> cases e1
          | _ => exact e1
        have e2' : dy = .str a := by
          cases dy with
          | ref c => unfold seeD at e2; dsimp only at e2; split at e2 <;> cases e2
          | _ => exact e2
        exact (hs (.inr (.inr (.inr (.inl ⟨a, e1', e2'⟩))))).elim
      · rename_i a e1 e2
        have e1' : dx = .str a := by
          cases dx with
          | ref c => unfold seeD at e1; dsimp only at e1; split at e1 <;> cases e1
          | _ => exact e1
        have e2' : dy = .non := by
          cases dy with
          | ref c => unfold seeD at e2; dsimp only at e2; split at e2 <;> cases e2
          | _ => exact e2
        exact (hs (.inr (.inr (.inr (.inr ⟨a, e1', e2'⟩))))).elim
      · exact h1
    refine .inr ⟨_, _, see_dp ok hok.1 rx, see_dp ok hok.2 ry, okD_shaped hok.1, okD_shaped hok.2, ?_⟩
    rw [← eqD_py hok.1 hok.2]
    exact fin
theorem d_eq (hu : X.A.units + 64 < cLine) : OpD X (compareOp .Eq) (eqR false) := ⟨_, op_eq.or (op_eqD hu), fun Z H μ x y dx dy Q q ok rx ry h k => eq_cases (neg := false) ok rx ry h k⟩
theorem d_ne (hu : X.A.units + 64 < cLine) : OpD X (compareOp .NotEq) (eqR true) := ⟨_, op_ne.or (op_neD hu), fun Z H μ x y dx dy Q q ok rx ry h k => eq_cases (neg := true) ok rx ry h k⟩

/-! ### in -/
def flatD : D → Bool
  | .non => true
  | .bl _ => true
  | .int _ => true
  | .str _ => true
  | _ => false
/-- a text within a text -/
def subS (a b : List Nat) : Bool := !(Builtin.Str.occurrences (S b) (S a) 0 (S b).length 1).isEmpty
theorem subS_one (c : Nat) (b : List Nat) : subS [c] b = decide (c ∈ b) := StrLaws.found_one (S b) c
def inL (x : D) (ds : List D) : Bool := ds.any fun y => PyData.eqv (toPy y) (toPy x)
def inD (neg : Bool) : R2D := fun x y μ q => match x, y with
  | .str a, .str b => q (.bl (if neg then !subS a b else subS a b)) μ
  | x, y => match itmD μ y with
    | some ds => (flatD x = true ∧ ds.all flatD = true) ∧ q (.bl (if neg then !inL x ds else inL x ds)) μ
    | none => False
theorem flat_rep {K : PySem.W.Frag} {Z : Addr → Prop} {H : Hp} {d : D} {v : V} (h : flatD d = true) (r : Rep K Z H d v) : flatV v = true := by
  cases d <;> first | (cases h; done) | (cases r; rfl)
theorem flat_repL {K : PySem.W.Frag} {Z : Addr → Prop} {H : Hp} : ∀ {ds : List D} {vs : List V}, ds.all flatD = true → RepL K Z H ds vs → vs.all flatV = true
  | [], vs, _, r => by cases (show vs = [] from r); rfl
  | d :: ds, vs, h, r => by
    obtain ⟨v, t, rfl, r1, r2⟩ := r
    simp only [List.all_cons, Bool.and_eq_true] at h ⊢
    exact ⟨flat_rep h.1 r1, flat_repL h.2 r2⟩
theorem eqV_py {K : PySem.W.Frag} {Z : Addr → Prop} {H : Hp} {x y : D} {u v : V} (hx : flatD x = true) (hy : flatD y = true) (rx : Rep K Z H x u) (ry : Rep K Z H y v) : eqV v u = PyData.eqv (toPy y) (toPy x) := by
  cases x <;> cases y <;> first | (cases hx; done) | (cases hy; done) | (cases rx; cases ry; simp [eqV, toPy, PyData.eqv])
theorem inV_py {K : PySem.W.Frag} {Z : Addr → Prop} {H : Hp} {x : D} {u : V} (hx : flatD x = true) (rx : Rep K Z H x u) : ∀ {ds : List D} {vs : List V}, ds.all flatD = true → RepL K Z H ds vs → inV u vs = inL x ds
  | [], vs, _, r => by cases (show vs = [] from r); rfl
  | d :: ds, vs, h, r => by
    obtain ⟨v, t, rfl, r1, r2⟩ := r
    simp only [List.all_cons, Bool.and_eq_true] at h
    have ih := inV_py hx rx h.2 r2
    unfold inV inL at ih ⊢
    rw [List.any_cons, List.any_cons, ih, eqV_py hx h.1 rx r1]
theorem in_cases {neg : Bool} {Z : Addr → Prop} {H : Hp} {μ : Mu} {x y : V} {dx dy : D} {Q : VK} {q : Q2} (ok : OkM X.K Z H μ) (rx : Rep X.K Z H dx x) (ry : Rep X.K Z H dy y) (h : inD neg dx dy μ q) (k : Kon X.K Z H μ Q q) :
    (∃ i j, x = .str i ∧ y = .str j ∧ Q (.bl (if neg then !(!(Builtin.Str.occurrences j i 0 j.length 1).isEmpty) else !(Builtin.Str.occurrences j i 0 j.length 1).isEmpty)) H) ∨ rIn X.K neg x y H Q := by
  by_cases h1 : ∃ a b, dx = .str a ∧ dy = .str b
  · obtain ⟨a, b, rfl, rfl⟩ := h1
    cases rx; cases ry
    exact .inl ⟨_, _, rfl, rfl, k _ H Z (.bl _) μ ok Ext.refl rfl h⟩
  · have h' : match itmD μ dy with
      | some ds => (flatD dx = true ∧ ds.all flatD = true) ∧ q (.bl (if neg then !inL dx ds else inL dx ds)) μ
      | none => False := by
      unfold inD at h
      split at h
      · exact (h1 ⟨_, _, rfl, rfl⟩).elim
      · exact h
    split at h'
    · rename_i ds e
      obtain ⟨a, xs, e1, e2, e3⟩ := itmD_ok ok ry e
      refine .inr ⟨a, xs, e1, e2, flat_rep h'.1.1 rx, flat_repL h'.1.2 e3, ?_⟩
      rw [inV_py h'.1.1 rx h'.1.2 e3]
      exact k _ H Z (.bl _) μ ok Ext.refl rfl h'.2
    · exact h'.elim
theorem d_in : OpD X (compareOp .In) (inD false) := ⟨_, op_in_str.or op_in_seq, fun Z H μ x y dx dy Q q ok rx ry h k => in_cases (neg := false) ok rx ry h k⟩
theorem d_notin : OpD X (compareOp .NotIn) (inD true) := ⟨_, op_notin_str.or op_notIn_seq, fun Z H μ x y dx dy Q q ok rx ry h k => in_cases (neg := true) ok rx ry h k⟩

/-! ### is -/
def isNon : D → Bool
  | .non => true
  | _ => false
def isD (neg : Bool) : R2D := fun x y μ q => match x, y with
  | .bl a, .bl b => q (.bl (if neg then !decide (a = b) else decide (a = b))) μ
  | .opq _, _ => False
  | x, .non => q (.bl (if neg then !isNon x else isNon x)) μ
  | _, _ => False
theorem is_non {K : PySem.W.Frag} {Z : Addr → Prop} {H : Hp} {d : D} {v : V} (h : ∀ u, d ≠ .opq u) (r : Rep K Z H d v) : decide (v = .non) = isNon d := by
  cases d with
  | non => cases r; rfl
  | bl _ => cases r; rfl
  | int _ => cases r; rfl
  | str _ => cases r; rfl
  | ref _ => cases r; rfl
  | opq u => exact (h u rfl).elim
  | bt b => cases r; rfl
  | tup _ => obtain ⟨a, xs, rfl, _⟩ := r; rfl
  | lst _ => obtain ⟨a, xs, rfl, _⟩ := r; rfl
  | arg _ => obtain ⟨a, xs, rfl, _⟩ := r; rfl
  | exn _ _ _ _ _ => obtain ⟨rfl, _⟩ := r; rfl
theorem is_cases {neg : Bool} {Z : Addr → Prop} {H : Hp} {μ : Mu} {x y : V} {dx dy : D} {Q : VK} {q : Q2} (ok : OkM X.K Z H μ) (rx : Rep X.K Z H dx x) (ry : Rep X.K Z H dy y) (h : isD neg dx dy μ q) (k : Kon X.K Z H μ Q q) :
    (y = .non ∧ Q (.bl (if neg then !decide (x = .non) else decide (x = .non))) H) ∨ ∃ a b : Bool, x = .bl a ∧ y = .bl b ∧ Q (.bl (if neg then !decide (a = b) else decide (a = b))) H := by
  unfold isD at h
  split at h
  · cases rx; cases ry
    exact .inr ⟨_, _, rfl, rfl, k _ H Z (.bl _) μ ok Ext.refl rfl h⟩
  · exact h.elim
  · rename_i x0 h0 h1
    cases ry
    refine .inl ⟨rfl, ?_⟩
    rw [is_non (fun u z => h1 u z) rx]
    exact k _ H Z (.bl _) μ ok Ext.refl rfl h
  · exact h.elim
theorem d_is : OpD X (compareOp .Is) (isD false) := ⟨_, op_isN.or op_isBl, fun Z H μ x y dx dy Q q ok rx ry h k => is_cases (neg := false) ok rx ry h k⟩
theorem d_isnot : OpD X (compareOp .IsNot) (isD true) := ⟨_, op_notN.or op_notBl, fun Z H μ x y dx dy Q q ok rx ry h k => is_cases (neg := true) ok rx ry h k⟩
end
end D2

set_option Elab.async false
set_option linter.all false
set_option maxRecDepth 100000
set_option maxHeartbeats 2000000
namespace D2
open PySem PySem.Spec PyProof.Rows L2
/-! ### subscripts, slices -/
theorem RepL.at {K : PySem.W.Frag} {Z : Addr → Prop} {H : Hp} {ds : List D} {xs : List V} {i : Int} {d : D} (r : RepL K Z H ds xs) (e : atI ds i = some d) : ∃ v, atI xs i = some v ∧ Rep K Z H d v := by
  unfold atI at e ⊢
  rw [← r.length]
  cases h : ixN ds.length i with
  | none => rw [h] at e; cases e
  | some j =>
    rw [h] at e
    exact r.get e
def ixD : R2D := fun x y μ q => match x, y with
  | .str a, .int i => (match atI a i with | some c => a.length ≤ sizeLine ∧ q (.str [c]) μ | none => False)
  | x, .int i => (match itmD μ x with | some ds => (match atI ds i with | some d => q d μ | none => False) | none => False)
  | _, _ => False
/-- what is cut out of a list -/
def cutL {α : Type} (xs : List α) (lo hi : Option Int) : List α := (xs.drop (HT.sIx xs.length 0 lo)).take (HT.sIx xs.length xs.length hi - HT.sIx xs.length 0 lo)
theorem RepL.cut {K : PySem.W.Frag} {Z : Addr → Prop} {H : Hp} {ds : List D} {xs : List V} (r : RepL K Z H ds xs) (lo hi : Option Int) : RepL K Z H (cutL ds lo hi) (cutV xs lo hi) := by
  unfold cutL cutV
  rw [r.length]
  exact (r.drop _).take _
theorem cutS_S (a : List Nat) (lo hi : Option Int) : cutS (S a) lo hi = S (cutL a lo hi) := by
  unfold cutS cutL
  rw [S_len]
abbrev TO2 := S2 → Mu → (Option Int → Mu → Prop) → W2 → Prop
def slD (m : Bool) : D → Option Int → Option Int → Mu → Q2 → Prop := fun x lo hi μ q => match x with
  | .str a => a.length ≤ sizeLine ∧ q (.str (cutL a lo hi)) μ
  | .tup ds => q (.tup (cutL ds lo hi)) μ
  | x => match seqD μ x with | some ds => newL m (cutL ds lo hi) μ q | none => False
def LO (K : PySem.W.Frag) (W : WX) (t : TO2) : TO := fun σ H Q => ∃ Z μ δ q w, OkM K Z H μ ∧ RepS K Z H δ σ ∧ WK K Z H μ W w ∧ t δ μ q w ∧
  ∀ o H' Z' μ', OkM K Z' H' μ' → Ext Z H μ Z' H' μ' → q o μ' → Q o H'
abbrev DO (X : Cx) (W : WX) (e : Option Expr) (t : TO2) : Prop := PO X e (LO X.K W t)
theorem po_imp {X : Cx} {e : Option Expr} {t t' : TO} (h : PO X e t) (i : ∀ σ H Q, t' σ H Q → t σ H Q) : PO X e t' := ⟨fun pins s σ H Q I q => h.run pins s σ H Q I (i σ H Q q)⟩
def rNoPart : TO2 := fun _ μ q _ => q none μ
def rPart (t : TE2) : TO2 := fun δ μ q w => t δ μ (fun d μ1 => match d with | .int i => q (some i) μ1 | _ => False) w
def rSl (m : Bool) (te : TE2) (tl th : TO2) : TE2 := fun δ μ q w => te δ μ (fun x μ1 => tl δ μ1 (fun l μ2 => th δ μ2 (fun h μ3 => slD m x l h μ3 q) w) w) w
section
variable {X : Cx} {W : WX} {a b e : Expr} {ta tb te : TE2} {pos p2 : Pos} {lo hi : Option Expr} {tl th : TO2}
theorem do_none : DO X W none rNoPart := po_imp po_none fun σ H Q ⟨Z, μ, δ, q, w, ok, rs, wk, ht, k⟩ => k none H Z μ ok Ext.refl ht
theorem do_some (h : DE X W e te) : DO X W (some e) (rPart te) := po_imp (po_some h) fun σ H Q ⟨Z, μ, δ, q, w, ok, rs, wk, ht, k⟩ =>
  ⟨Z, μ, δ, _, w, ok, rs, wk, ht, fun v H1 Z1 d μ1 ok1 x1 r1 h1 => by
    cases d with
    | int i => exact ⟨i, r1, k (some i) H1 Z1 μ1 ok1 x1 h1⟩
    | _ => exact h1.elim⟩
/-- a[b] of a list, a tuple, a text -/
theorem d_ix (ha : DE X W a ta) (hb : DE X W b tb) (hs : PlainIx b := by intro _ _; rfl) : DE X W (.Subscript a b pos) (rOp ixD ta tb) :=
  pe_imp (pe_ix ix_seq ha hb hs) fun σ H Q ⟨Z, μ, δ, q, w, ok, rs, wk, ht, k⟩ => le_bin ok rs wk ht fun x y H' Z' dx dy μ' ok' x' rx ry hr => by
    unfold ixD at hr
    split at hr
    · rename_i s i
      cases rx; cases ry
      split at hr
      · rename_i c e
        exact .inr (.inr ⟨_, i, c, rfl, rfl, by rw [S_len]; exact hr.1, e, k _ H' Z' (.str [c]) μ' ok' x' rfl hr.2⟩)
      · exact hr.elim
    · rename_i x0 i h0
      cases ry
      split at hr
      · rename_i ds e
        split at hr
        · rename_i c e2
          obtain ⟨p, xs, rfl, h1, h2⟩ := itmD_ok ok' rx e
          obtain ⟨v, e3, r3⟩ := h2.at e2
          have fin := k v H' Z' c μ' ok' x' r3 hr
          rcases h1 with h1 | h1
          · exact .inl ⟨p, xs, i, v, rfl, rfl, h1, e3, fin⟩
          · exact .inr (.inl ⟨p, xs, i, v, rfl, rfl, h1, e3, fin⟩)
        · exact hr.elim
      · exact hr.elim
    · exact hr.elim
theorem d_sl (m : Bool) (he : DE X W e te) (hl : DO X W lo tl) (hh : DO X W hi th) : DE X W (.Subscript e (.Slice lo hi none p2) pos) (rSl m te tl th) :=
  pe_imp (pe_slice (sl_list.or (sl_tupA.or sl_str)) he hl hh) fun σ H Q ⟨Z, μ, δ, q, w, ok, rs, wk, ht, k⟩ => ⟨Z, μ, δ, _, w, ok, rs, wk, ht, fun v H1 Z1 d μ1 ok1 x1 r1 h1 =>
    ⟨Z1, μ1, δ, _, w, ok1, rs.ext x1 _ _, wk.on x1, h1, fun l H2 Z2 μ2 ok2 x2 h2 => ⟨Z2, μ2, δ, _, w, ok2, rs.ext (x1.trans x2) _ _, wk.on (x1.trans x2), h2, fun u H3 Z3 μ3 ok3 x3 h3 => by
      have r3 := r1.ext (x2.trans x3) _ _
      have k3 := Kon.on k (x1.trans (x2.trans x3))
      unfold slD at h3
      split at h3
      · rename_i a
        cases r3
        refine .inr (.inr ⟨_, rfl, by rw [S_len]; exact h3.1, ?_⟩)
        rw [cutS_S]
        exact k3 _ H3 Z3 (.str _) μ3 ok3 Ext.refl rfl h3.2
      · rename_i ds
        obtain ⟨a, xs, rfl, t, r⟩ := r3
        refine .inr (.inl ⟨a, xs, rfl, t, fun hw => ?_, fun hw p np => newT_ok ok3 (r.cut l u) h3 k3 p np⟩)
        refine k3 _ H3 Z3 (.tup _) μ3 ok3 Ext.refl (show Rep X.K Z3 H3 (.tup _) _ from ⟨a, xs, rfl, t, ?_⟩) h3
        have e := r.cut l u
        have e2 : cutV xs l u = xs := by
          unfold cutV
          rw [hw.1, hw.2]; simp
        rw [e2] at e
        exact e
      · split at h3
        · rename_i ds e
          obtain ⟨a, xs, rfl, t, r⟩ := seqD_ok ok3 r3 e
          exact .inl ⟨a, xs, rfl, t, fun p np => newL_ok ok3 (r.cut l u) h3 k3 p np⟩
        · exact h3.elim⟩⟩⟩
end

/-! ### built-in functions -/
abbrev RCD := List D → Mu → Q2 → Prop
def CallD (X : Cx) (f : Value) (r : RCD) : Prop := ∃ r', CallR X f r' ∧ ∀ (Z : Addr → Prop) (H : Hp) (μ : Mu) (xs : List V) (ds : List D) (Q : VK) (q : Q2), OkM X.K Z H μ → RepL X.K Z H ds xs → r ds μ q → Kon X.K Z H μ Q q → r' xs H Q
def rCB (r : RCD) (t : TA2) : TE2 := fun δ μ q w => t δ μ (fun ds μ1 => r ds μ1 q) w
section
variable {X : Cx} {W : WX} {x : Str} {p pos : Pos} {e : Expr} {es : List Expr} {t : TA2} {id T : String} {r : RCD}
theorem d_callB (hc : CallD X (.builtin id) r) (hg : Gl X x) (hm : X.mg x = none) (hv : bootBuiltins x = some (.builtin id)) (ha : DA X W (e :: es) t) (hn : x ≠ "__name__" := by decide) (hdb : (x == ("__debug__" : Str)) = false := by decide)
    (he : starEach (e :: es) X.env = (false, eval e X.env) :: starEach es X.env := by rfl) (hpl : (backTo pos (starEach es X.env)).any (·.1) = false := by rfl) : DE X W (.Call (.Name x p) (e :: es) [] pos) (rCB r t) := by
  obtain ⟨r', h1, h2⟩ := hc
  exact pe_imp (pe_callB h1 hg hm hv ha hn hdb he hpl) fun σ H Q ⟨Z, μ, δ, q, w, ok, rs, wk, ht, k⟩ => ⟨Z, μ, δ, _, w, ok, rs, wk, ht, fun vs H1 Z1 ds μ1 ok1 x1 r1 _ hr => h2 Z1 H1 μ1 vs ds Q q ok1 r1 hr (Kon.on k x1)⟩
theorem d_callTy (hc : CallD X (.type T) r) (hg : Gl X x) (hm : X.mg x = none) (hv : bootBuiltins x = some (.type T)) (ha : DA X W (e :: es) t) (hn : x ≠ "__name__" := by decide) (hdb : (x == ("__debug__" : Str)) = false := by decide)
    (he : starEach (e :: es) X.env = (false, eval e X.env) :: starEach es X.env := by rfl) (hpl : (backTo pos (starEach es X.env)).any (·.1) = false := by rfl) : DE X W (.Call (.Name x p) (e :: es) [] pos) (rCB r t) := by
  obtain ⟨r', h1, h2⟩ := hc
  exact pe_imp (pe_callTy h1 hg hm hv ha hn hdb he hpl) fun σ H Q ⟨Z, μ, δ, q, w, ok, rs, wk, ht, k⟩ => ⟨Z, μ, δ, _, w, ok, rs, wk, ht, fun vs H1 Z1 ds μ1 ok1 x1 r1 _ hr => h2 Z1 H1 μ1 vs ds Q q ok1 r1 hr (Kon.on k x1)⟩
theorem rep1 {K : PySem.W.Frag} {Z : Addr → Prop} {H : Hp} {d : D} {xs : List V} (r : RepL K Z H [d] xs) : ∃ v, xs = [v] ∧ Rep K Z H d v := by
  obtain ⟨v, t, rfl, h1, h2⟩ := r
  cases (show t = [] from h2)
  exact ⟨v, rfl, h1⟩
theorem rep2 {K : PySem.W.Frag} {Z : Addr → Prop} {H : Hp} {d e : D} {xs : List V} (r : RepL K Z H [d, e] xs) : ∃ v u, xs = [v, u] ∧ Rep K Z H d v ∧ Rep K Z H e u := by
  obtain ⟨v, t, rfl, h1, h2⟩ := r
  obtain ⟨u, rfl, h3⟩ := rep1 h2
  exact ⟨v, u, rfl, h1, h3⟩
def lenC : RCD := fun ds μ q => match ds with
  | [.str a] => a.length ≤ sizeLine ∧ q (.int a.length) μ
  | [d] => (match itmD μ d with | some es => q (.int es.length) μ | none => False)
  | _ => False
theorem c_len : CallD X (.builtin "len") lenC := by
  refine ⟨_, call_len_str.or call_len_seq, fun Z H μ xs ds Q q ok r h k => ?_⟩
  unfold lenC at h
  split at h
  · obtain ⟨v, rfl, r1⟩ := rep1 r
    cases r1
    refine .inl ⟨_, rfl, by rw [S_len]; exact h.1, ?_⟩
    rw [S_len]
    exact k _ H Z (.int _) μ ok Ext.refl rfl h.2
  · obtain ⟨v, rfl, r1⟩ := rep1 r
    split at h
    · rename_i es e
      obtain ⟨a, ys, rfl, h1, h2⟩ := itmD_ok ok r1 e
      refine .inr ⟨a, ys, rfl, h1, ?_⟩
      rw [← h2.length]
      exact k _ H Z (.int _) μ ok Ext.refl rfl h
    · exact h.elim
  · exact h.elim
def intC : RCD := fun ds μ q => match ds with
  | [.int i] => q (.int i) μ
  | [.bl b] => q (.int (if b then 1 else 0)) μ
  | _ => False
theorem c_int : CallD X (.type "int") intC := by
  refine ⟨_, call_int1, fun Z H μ xs ds Q q ok r h k => ?_⟩
  unfold intC at h
  split at h
  · obtain ⟨v, rfl, r1⟩ := rep1 r
    cases r1
    exact .inl ⟨_, rfl, k _ H Z (.int _) μ ok Ext.refl rfl h⟩
  · obtain ⟨v, rfl, r1⟩ := rep1 r
    cases r1
    exact .inr ⟨_, rfl, k _ H Z (.int _) μ ok Ext.refl rfl h⟩
  · exact h.elim
def numS (i : Int) : List Nat := (Str.ofString (toString i)).cps.toList
def strC : RCD := fun ds μ q => match ds with
  | [.int i] => i.natAbs.log2 < 1920 ∧ q (.str (numS i)) μ
  | _ => False
theorem c_str : CallD X (.type "str") strC := by
  refine ⟨_, call_str_int, fun Z H μ xs ds Q q ok r h k => ?_⟩
  unfold strC at h
  split at h
  · rename_i i
    obtain ⟨v, rfl, r1⟩ := rep1 r
    cases r1
    refine ⟨_, rfl, h.1, ?_⟩
    exact k _ H Z (.str (numS i)) μ ok Ext.refl (by show V.str _ = V.str _; unfold numS; rw [str_back]) h.2
  · exact h.elim
def absC : RCD := fun ds μ q => match ds with
  | [.int i] => q (.int (if i < 0 then -i else i)) μ
  | _ => False
theorem c_abs : CallD X (.builtin "abs") absC := by
  refine ⟨_, call_abs, fun Z H μ xs ds Q q ok r h k => ?_⟩
  unfold absC at h
  split at h
  · obtain ⟨v, rfl, r1⟩ := rep1 r
    cases r1
    exact ⟨_, rfl, k _ H Z (.int _) μ ok Ext.refl rfl h⟩
  · exact h.elim
def maxC : RCD := fun ds μ q => match ds with
  | [.int i, .int j] => q (.int (if j > i then j else i)) μ
  | _ => False
theorem c_max (hc : X.calm = true) : CallD X (.builtin "max") maxC := by
  refine ⟨_, call_max2 hc, fun Z H μ xs ds Q q ok r h k => ?_⟩
  unfold maxC at h
  split at h
  · obtain ⟨v, u, rfl, r1, r2⟩ := rep2 r
    cases r1; cases r2
    exact ⟨_, _, rfl, k _ H Z (.int _) μ ok Ext.refl rfl h⟩
  · exact h.elim
def minC : RCD := fun ds μ q => match ds with
  | [.int i, .int j] => q (.int (if j < i then j else i)) μ
  | _ => False
theorem c_min (hc : X.calm = true) : CallD X (.builtin "min") minC := by
  refine ⟨_, call_min2 hc, fun Z H μ xs ds Q q ok r h k => ?_⟩
  unfold minC at h
  split at h
  · obtain ⟨v, u, rfl, r1, r2⟩ := rep2 r
    cases r1; cases r2
    exact ⟨_, _, rfl, k _ H Z (.int _) μ ok Ext.refl rfl h⟩
  · exact h.elim
def listC (m : Bool) : RCD := fun ds μ q => match ds with
  | [d] => (match itmD μ d with | some es => newL m es μ q | none => False)
  | _ => False
theorem c_list (m : Bool) : CallD X (.type "list") (listC m) := by
  refine ⟨_, call_list_of, fun Z H μ xs ds Q q ok r h k => ?_⟩
  unfold listC at h
  split at h
  · obtain ⟨v, rfl, r1⟩ := rep1 r
    split at h
    · rename_i es e
      obtain ⟨a, ys, rfl, h1, h2⟩ := itmD_ok ok r1 e
      exact ⟨a, ys, rfl, h1, fun p np => newL_ok ok h2 h k p np⟩
    · exact h.elim
  · exact h.elim
def tupC : RCD := fun ds μ q => match ds with
  | [d] => (match itmD μ d with | some es => q (.tup es) μ | none => False)
  | _ => False
theorem c_tup : CallD X (.type "tuple") tupC := by
  refine ⟨_, call_tuple_of, fun Z H μ xs ds Q q ok r h k => ?_⟩
  unfold tupC at h
  split at h
  · obtain ⟨v, rfl, r1⟩ := rep1 r
    split at h
    · rename_i es e
      obtain ⟨a, ys, rfl, h1, h2⟩ := itmD_ok ok r1 e
      refine ⟨a, ys, rfl, ?_⟩
      rcases h1 with h1 | h1
      · exact .inl ⟨h1, fun p np => newT_ok ok h2 h k p np⟩
      · exact .inr ⟨h1, k _ H Z (.tup es) μ ok Ext.refl (show Rep X.K Z H (.tup es) _ from ⟨a, ys, rfl, h1, h2⟩) h⟩
    · exact h.elim
  · exact h.elim
def blsD : List D → Option (List Bool)
  | [] => some []
  | .bl b :: r => (blsD r).map (b :: ·)
  | _ :: _ => none
theorem blsD_ok {K : PySem.W.Frag} {Z : Addr → Prop} {H : Hp} : ∀ {ds : List D} {xs : List V} {bs : List Bool}, RepL K Z H ds xs → blsD ds = some bs → xs = bs.map V.bl
  | [], xs, bs, r, e => by cases e; exact r
  | d :: ds, xs, bs, r, e => by
    obtain ⟨v, t, rfl, h1, h2⟩ := r
    cases d with
    | bl b =>
      unfold blsD at e
      cases q : blsD ds with
      | none => rw [q] at e; cases e
      | some cs =>
        rw [q] at e; cases e
        cases h1
        rw [blsD_ok h2 q]; rfl
    | _ => cases e
def allC : RCD := fun ds μ q => match ds with
  | [d] => (match seqD μ d with | some es => (match blsD es with | some bs => q (.bl (bs.all (fun b => b))) μ | none => False) | none => False)
  | _ => False
def anyC : RCD := fun ds μ q => match ds with
  | [d] => (match seqD μ d with | some es => (match blsD es with | some bs => q (.bl (bs.any (fun b => b))) μ | none => False) | none => False)
  | _ => False
theorem c_all (hc : X.calm = true) : CallD X (.builtin "all") allC := by
  refine ⟨_, cr_all hc, fun Z H μ xs ds Q q ok r h k => ?_⟩
  unfold allC at h
  split at h
  · obtain ⟨v, rfl, r1⟩ := rep1 r
    split at h
    · rename_i es e
      obtain ⟨a, ys, rfl, h1, h2⟩ := seqD_ok ok r1 e
      split at h
      · rename_i bs e2
        have := blsD_ok h2 e2
        subst this
        exact ⟨a, bs, rfl, h1, k _ H Z (.bl _) μ ok Ext.refl rfl h⟩
      · exact h.elim
    · exact h.elim
  · exact h.elim
theorem c_any (hc : X.calm = true) : CallD X (.builtin "any") anyC := by
  refine ⟨_, cr_any hc, fun Z H μ xs ds Q q ok r h k => ?_⟩
  unfold anyC at h
  split at h
  · obtain ⟨v, rfl, r1⟩ := rep1 r
    split at h
    · rename_i es e
      obtain ⟨a, ys, rfl, h1, h2⟩ := seqD_ok ok r1 e
      split at h
      · rename_i bs e2
        have := blsD_ok h2 e2
        subst this
        exact ⟨a, bs, rfl, h1, k _ H Z (.bl _) μ ok Ext.refl rfl h⟩
      · exact h.elim
    · exact h.elim
  · exact h.elim
/-- a built-in type's name as a value -/
theorem d_ty (b : BT) {x : Str} (hg : Gl X x) (hm : X.mg x = none) (hv : bootBuiltins x = some (.type b.nm)) (hn : x ≠ "__name__" := by decide) (hd : (x == ("__debug__" : Str)) = false := by decide) : DE X W (.Name x pos) (rCon (.bt b)) :=
  de_con (v := .ty b.nm) (pe_bltn hg hm hv rfl hn hd) fun _ _ => rfl
/-- the built-in type of a thing -/
def tyD (μ : Mu) : D → Option String
  | .non => some "NoneType"
  | .bl _ => some "bool"
  | .int _ => some "int"
  | .str _ => some "str"
  | .tup _ => some "tuple"
  | .lst _ => some "list"
  | .arg _ => some "list"
  | .ref a => match μ a with | some (.ml _) => some "list" | some (.md _) => some "dict" | _ => none
  | _ => none
def isB (t : String) (b : BT) : Bool := match b with
  | .str => t == "str" | .int => t == "int" || t == "bool" | .bool => t == "bool" | .list => t == "list" | .tuple => t == "tuple" | .dict => t == "dict"
theorem tyD_ok {K : PySem.W.Frag} {Z : Addr → Prop} {H : Hp} {μ : Mu} {d : D} {v : V} {t : String} (ok : OkM K Z H μ) (r : Rep K Z H d v) (e : tyD μ d = some t) : TyX K H v (.type t) := by
  cases d with
  | non => cases e; cases r; exact .base .non
  | bl b => cases e; cases r; exact .base (.bl b)
  | int b => cases e; cases r; exact .base (.int b)
  | str b => cases e; cases r; exact .base (.str _)
  | tup ds =>
    cases e
    obtain ⟨a, xs, rfl, h1, _⟩ := r
    rcases h1 with (h1 | ⟨o, h1⟩) | ⟨o, its, n, h1, h2, _⟩
    · exact .base (.tup h1)
    · exact .fTuple h1
    · exact .kTuple h1 h2
  | lst ds => cases e; obtain ⟨a, xs, rfl, h1, _⟩ := r; exact .base (.lst h1.2)
  | arg ds =>
    cases e
    obtain ⟨a, xs, rfl, h1, _⟩ := r
    rcases h1 with ⟨o, h1⟩ | ⟨o, its, n, h1, h2, _⟩
    · exact .base (.frz h1)
    · exact .kList h1 h2
  | ref a =>
    unfold tyD at e
    dsimp only at e
    rw [show v = V.ref a from r]
    split at e
    · rename_i ds h
      cases e
      obtain ⟨xs, h1, _⟩ := (ok.ob a _ h).2
      exact .base (.lst h1)
    · rename_i ds h
      cases e
      obtain ⟨xs, h1, _⟩ := (ok.ob a _ h).2
      exact .base (.dK h1)
    · cases e
  | opq _ => cases e
  | bt _ => cases e
  | exn _ _ _ _ _ => cases e
theorem tyD_range {μ : Mu} {d : D} {t : String} (e : tyD μ d = some t) : t ∈ ["NoneType", "bool", "int", "str", "tuple", "list", "dict"] := by
  cases d with
  | ref a =>
    unfold tyD at e
    dsimp only at e
    split at e <;> first | (cases e; simp; done) | cases e
  | _ => first | (cases e; simp; done) | cases e
theorem kit_all : ∀ t ∈ ["NoneType", "bool", "int", "str", "tuple", "list", "dict"], ∀ b ∈ [BT.str, .int, .bool, .list, .tuple, .dict], kitB t b.nm = some (isB t b) := by decide +kernel
theorem BT.mem (b : BT) : b ∈ [BT.str, .int, .bool, .list, .tuple, .dict] := by cases b <;> simp
/-- isinstance(x, T), T a built-in class -/
def isiC : RCD := fun ds μ q => match ds with
  | [d, .bt b] => (match tyD μ d with | some t => q (.bl (isB t b)) μ | none => False)
  | _ => False
theorem c_isi : CallD X (.builtin "isinstance") isiC := by
  refine ⟨_, call_isi, fun Z H μ xs ds Q q ok r h k => ?_⟩
  unfold isiC at h
  split at h
  · rename_i d b
    obtain ⟨v, u, rfl, r1, r2⟩ := rep2 r
    cases r2
    split at h
    · rename_i t e
      exact ⟨v, .ty b.nm, .type t, .type b.nm, isB t b, rfl, .ty _, tyD_ok ok r1 e, kit_ty (kit_all t (tyD_range e) b b.mem), k _ H Z (.bl _) μ ok Ext.refl rfl h⟩
    · exact h.elim
  · exact h.elim
end
end D2

set_option Elab.async false
set_option linter.all false
set_option maxRecDepth 100000
set_option maxHeartbeats 2000000
namespace D2
open PySem PySem.Spec PyProof.Rows L2
/-! ### methods of lists and texts -/
abbrev RMD := D → List D → Mu → Q2 → Prop
def MtD (X : Cx) (id : String) (r : RMD) : Prop := ∃ r', MtR X id r' ∧ ∀ (Z : Addr → Prop) (H : Hp) (μ : Mu) (x : V) (xs : List V) (d : D) (ds : List D) (Q : VK) (q : Q2), OkM X.K Z H μ → Rep X.K Z H d x → RepL X.K Z H ds xs → r d ds μ q → Kon X.K Z H μ Q q → r' x xs H Q
def isL (μ : Mu) : D → Prop
  | .lst _ => True
  | .arg _ => True
  | .ref a => match μ a with | some (.ml _) => True | _ => False
  | _ => False
theorem isL_ok {K : PySem.W.Frag} {Z : Addr → Prop} {H : Hp} {μ : Mu} {d : D} {v : V} (ok : OkM K Z H μ) (r : Rep K Z H d v) (h : isL μ d) : tyV K "list" v H := by
  have : ∃ ds, seqD μ d = some ds := by
    cases d with
    | lst ds => exact ⟨ds, rfl⟩
    | arg ds => exact ⟨ds, rfl⟩
    | ref a =>
      unfold isL at h
      unfold seqD
      dsimp only at h ⊢
      split at h
      · rename_i ds e; first | exact ⟨ds, rfl⟩ | (rw [e]; exact ⟨ds, rfl⟩)
      · exact h.elim
    | _ => exact h.elim
  obtain ⟨ds, e⟩ := this
  obtain ⟨a, xs, rfl, h1, _⟩ := seqD_ok ok r e
  exact .inl ⟨rfl, xs, h1⟩
/-- a list's method -/
def rLM (r : RMD) (to : TE2) (t : TA2) : TE2 := fun δ μ q w => to δ μ (fun x μ1 => isL μ1 x ∧ t δ μ1 (fun ds μ2 => r x ds μ2 q) w) w
def rLM0 (r : RMD) (to : TE2) : TE2 := fun δ μ q w => to δ μ (fun x μ1 => isL μ1 x ∧ r x [] μ1 q) w
def rSM (r : RMD) (to te : TE2) : TE2 := fun δ μ q w => to δ μ (fun x μ1 => match x with | .str a => te δ μ1 (fun y μ2 => r (.str a) [y] μ2 q) w | _ => False) w
section
variable {X : Cx} {W : WX} {o e : Expr} {es : List Expr} {to te : TE2} {t : TA2} {name : Str} {apos cpos pos : Pos} {id : String} {r : RMD}
theorem d_lm (slot : Slot "list" name id) (hty : typeOf (.builtin id) = pure (.type "method_descriptor")) (hm : MtD X id r) (ho : DE X W o to) (ha : DA X W (e :: es) t)
    (hbase : attributeBase o name X.env (eval o X.env) = eval o X.env := by rfl)
    (hfew : ((backTo cpos (starEach (e :: es) X.env)).all (fun x => !x.1) && (backToKw cpos (keywordEach [] X.env)).all (fun x => x.1.isSome)
      && decide ((e :: es).length + ([] : List Keyword).length + (if ([] : List Keyword).isEmpty then 0 else 1) < 30)) = true := by rfl)
    (hline : (apos.endLine == cpos.line) = true := by rfl) (hs : starEach (e :: es) X.env = (false, eval e X.env) :: starEach es X.env := by rfl) (hplain : (backTo cpos (starEach es X.env)).any (·.1) = false := by rfl) :
    DE X W (.Call (.Attribute o name apos) (e :: es) [] cpos) (rLM r to t) := by
  obtain ⟨r', h1, h2⟩ := hm
  exact pe_imp (pe_bm PySem.F.plainAttrs_list slot hty h1 ho ha hbase hfew hline hs hplain) fun σ H Q ⟨Z, μ, δ, q, w, ok, rs, wk, ht, k⟩ => ⟨Z, μ, δ, _, w, ok, rs, wk, ht, fun v H1 Z1 d μ1 ok1 x1 r1 h =>
    ⟨isL_ok ok1 r1 h.1, Z1, μ1, δ, _, w, ok1, rs.ext x1 _ _, wk.on x1, h.2, fun vs H2 Z2 ds μ2 ok2 x2 r2 _ hr => h2 Z2 H2 μ2 v vs d ds Q q ok2 (r1.ext x2 _ _) r2 hr (Kon.on k (x1.trans x2))⟩⟩
theorem d_lm0 (slot : Slot "list" name id) (hty : typeOf (.builtin id) = pure (.type "method_descriptor")) (hm : MtD X id r) (ho : DE X W o to)
    (hbase : attributeBase o name X.env (eval o X.env) = eval o X.env := by rfl) (hline : (apos.endLine == cpos.line) = true := by rfl) : DE X W (.Call (.Attribute o name apos) [] [] cpos) (rLM0 r to) := by
  obtain ⟨r', h1, h2⟩ := hm
  exact pe_imp (pe_bm0 PySem.F.plainAttrs_list slot hty h1 ho hbase hline) fun σ H Q ⟨Z, μ, δ, q, w, ok, rs, wk, ht, k⟩ => ⟨Z, μ, δ, _, w, ok, rs, wk, ht, fun v H1 Z1 d μ1 ok1 x1 r1 h =>
    ⟨isL_ok ok1 r1 h.1, h2 Z1 H1 μ1 v [] d [] Q q ok1 r1 rfl h.2 (Kon.on k x1)⟩⟩
theorem d_sm (slot : Slot "str" name id) (hty : typeOf (.builtin id) = pure (.type "method_descriptor")) (hm : MtD X id r) (ho : DE X W o to) (he : DE X W e te)
    (hs : starEach [e] X.env = [(false, eval e X.env)] := by rfl) (hbase : attributeBase o name X.env (eval o X.env) = eval o X.env := by rfl) (hline : (apos.endLine == pos.line) = true := by rfl) :
    DE X W (.Call (.Attribute o name apos) [e] [] pos) (rSM r to te) := by
  obtain ⟨r', h1, h2⟩ := hm
  exact pe_imp (pe_m1 slot hty h1 ho he hs hbase hline) fun σ H Q ⟨Z, μ, δ, q, w, ok, rs, wk, ht, k⟩ => ⟨Z, μ, δ, _, w, ok, rs, wk, ht, fun v H1 Z1 d μ1 ok1 x1 r1 h => by
    cases d with
    | str a =>
      cases r1
      exact ⟨⟨_, rfl⟩, Z1, μ1, δ, _, w, ok1, rs.ext x1 _ _, wk.on x1, h, fun u H2 Z2 d2 μ2 ok2 x2 r2 hr =>
        h2 Z2 H2 μ2 _ [u] (.str a) [d2] Q q ok2 rfl ⟨u, [], rfl, r2, rfl⟩ hr (Kon.on k (x1.trans x2))⟩
    | _ => exact h.elim⟩
def appendM : RMD := fun x ds μ q => match x, ds with
  | .ref a, [d] => (match μ a with | some (.ml es) => es.length < sizeLine ∧ q .non (put μ a (.ml (es ++ [d]))) | _ => False)
  | _, _ => False
/-- a list that may be changed is changed -/
theorem write_ok {K : PySem.W.Frag} {Z : Addr → Prop} {H : Hp} {μ : Mu} {a : Addr} {es fs : List D} {ys : List V} (ok : OkM K Z H μ) (e : μ a = some (.ml es)) (r : RepL K Z H fs ys) : OkM K Z (upd H a (.lst ys)) (put μ a (.ml fs)) ∧ Ext Z H μ Z (upd H a (.lst ys)) (put μ a (.ml fs)) :=
  ⟨ok.write e ⟨ys, upd_same, RepL.ext (Ext.write (m' := .ml fs) ok e) _ _ r⟩, Ext.write ok e⟩
theorem m_append : MtD X "list.append" appendM := by
  refine ⟨_, mt_append, fun Z H μ x xs d ds Q q ok rx rs h k => ?_⟩
  unfold appendM at h
  split at h
  · rename_i a d
    split at h
    · rename_i es e
      cases rx
      obtain ⟨v, rfl, r1⟩ := rep1 rs
      obtain ⟨ys, h1, h2⟩ := (ok.ob a _ e).2
      have w := write_ok ok e (h2.append (show RepL X.K Z H [d] [v] from ⟨v, [], rfl, r1, rfl⟩))
      exact ⟨a, ys, v, rfl, rfl, h1, by rw [← h2.length]; exact h.1, k .non _ Z .non _ w.1 w.2 rfl h.2⟩
    · exact h.elim
  · exact h.elim
def extendM : RMD := fun x ds μ q => match x, ds with
  | .ref a, [d] => (match μ a, lstD μ d with | some (.ml es), some fs => es.length + fs.length ≤ sizeLine ∧ q .non (put μ a (.ml (es ++ fs))) | _, _ => False)
  | _, _ => False
theorem m_extend : MtD X "list.extend" extendM := by
  refine ⟨_, mt_extend, fun Z H μ x xs d ds Q q ok rx rs h k => ?_⟩
  unfold extendM at h
  split at h
  · rename_i a d
    split at h
    · rename_i es fs e e2
      cases rx
      obtain ⟨v, rfl, r1⟩ := rep1 rs
      obtain ⟨ys, h1, h2⟩ := (ok.ob a _ e).2
      obtain ⟨b, zs, rfl, h3, h4⟩ := lstD_ok ok r1 e2
      have w := write_ok ok e (h2.append h4)
      exact ⟨a, b, ys, zs, rfl, rfl, h1, h3, by rw [← h2.length, ← h4.length]; exact h.1, k .non _ Z .non _ w.1 w.2 rfl h.2⟩
    · exact h.elim
  · exact h.elim
theorem RepL.dropLast {K : PySem.W.Frag} {Z : Addr → Prop} {H : Hp} {ds : List D} {xs : List V} (r : RepL K Z H ds xs) : RepL K Z H ds.dropLast xs.dropLast := by
  rw [List.dropLast_eq_take, List.dropLast_eq_take, r.length]
  exact r.take _
def popM : RMD := fun x ds μ q => match x, ds with
  | .ref a, [] => (match μ a with | some (.ml es) => (match es[es.length - 1]? with | some d => q d (put μ a (.ml es.dropLast)) | none => False) | _ => False)
  | _, _ => False
theorem m_pop : MtD X "list.pop" popM := by
  refine ⟨_, mt_pop, fun Z H μ x xs d ds Q q ok rx rs h k => ?_⟩
  unfold popM at h
  split at h
  · rename_i a
    split at h
    · rename_i es e
      split at h
      · rename_i c e2
        cases rx
        cases (show xs = [] from rs)
        obtain ⟨ys, h1, h2⟩ := (ok.ob a _ e).2
        obtain ⟨v, e3, r3⟩ := h2.get e2
        have w := write_ok ok e h2.dropLast
        exact ⟨a, ys, v, rfl, rfl, h1, by rw [← h2.length]; exact e3, k v _ Z c _ w.1 w.2 (r3.ext w.2 _ _) h⟩
      · exact h.elim
    · exact h.elim
  · exact h.elim
def strsD : List D → Option (List (List Nat))
  | [] => some []
  | .str b :: r => (strsD r).map (b :: ·)
  | _ :: _ => none
theorem strsD_ok {K : PySem.W.Frag} {Z : Addr → Prop} {H : Hp} : ∀ {ds : List D} {xs : List V} {bs : List (List Nat)}, RepL K Z H ds xs → strsD ds = some bs → xs = (bs.map S).map V.str
  | [], xs, bs, r, e => by cases e; exact r
  | d :: ds, xs, bs, r, e => by
    obtain ⟨v, t, rfl, h1, h2⟩ := r
    cases d with
    | str b =>
      unfold strsD at e
      cases q : strsD ds with
      | none => rw [q] at e; cases e
      | some cs =>
        rw [q] at e; cases e
        cases h1
        rw [strsD_ok h2 q]; rfl
    | _ => cases e
theorem strsD_map (l : List (List Nat)) : strsD (l.map D.str) = some l := by
  induction l with
  | nil => rfl
  | cons a l ih => rw [List.map_cons, strsD, ih]; rfl
def joinM : RMD := fun x ds μ q => match x, ds with
  | .str a, [d] => (match itmD μ d with | some es => (match strsD es with | some ys => (ys.map (·.length)).sum + ys.length * a.length ≤ 16777216 ∧ q (.str (TL.joinL a ys)) μ | none => False) | none => False)
  | _, _ => False
theorem m_join : MtD X "str.join" joinM := by
  refine ⟨_, mt_join, fun Z H μ x xs d ds Q q ok rx rs h k => ?_⟩
  unfold joinM at h
  split at h
  · rename_i a d
    split at h
    · rename_i es e
      split at h
      · rename_i ys e2
        cases rx
        obtain ⟨v, rfl, r1⟩ := rep1 rs
        obtain ⟨p, zs, rfl, h1, h2⟩ := itmD_ok ok r1 e
        have e3 := strsD_ok h2 e2
        subst e3
        refine ⟨_, p, ys.map S, rfl, rfl, h1, ?_, ?_⟩
        · rw [SX.lens, S_len, List.length_map]; exact h.1
        · rw [SX.join_S]
          exact k _ H Z (.str _) μ ok Ext.refl rfl h.2
      · exact h.elim
    · exact h.elim
  · exact h.elim
end

/-! ### functions of the text -/
/-- what a function promises over data -/
abbrev Sp2 := List D → Mu → Q2 → (Value → List (Str × D) → Mu → Prop) → Prop
def liftSp (K : PySem.W.Frag) (sp : Sp2) : Sp := fun vs H Q E => ∃ Z μ ds q e, OkM K Z H μ ∧ RepL K Z H ds vs ∧ sp ds μ q e ∧ Kon K Z H μ Q q ∧
  ∀ cls d H' Z' fs μ', OkM K Z' H' μ' → Ext Z H μ Z' H' μ' → XRep K Z' H' d fs → e cls fs μ' → E cls d H'
structure Fn2 (P : Program) (w : World) (K : PySem.W.Frag) (mg : Str → Option Value) (base : Heap) (k : Nat) (x : Str) (ps : List Str) (sp : Sp2) : Prop where
  ex : ∃ f fd, mg x = some (.ref f) ∧ FnOk P w K mg base (L2.CX P w) k f fd ps (liftSp K sp) ∧ PySem.W.keepIn K (.ref f) = true ∧ Binds K fd ps []
theorem Fn2.mono {P : Program} {w : World} {K : PySem.W.Frag} {mg : Str → Option Value} {base : Heap} {j k : Nat} {x : Str} {ps : List Str} {sp : Sp2} (F : Fn2 P w K mg base j x ps sp) (h : j ≤ k) : Fn2 P w K mg base k x ps sp := by
  obtain ⟨f, fd, h1, h2, h3, h4⟩ := F.ex
  exact ⟨f, fd, h1, h2.mono h, h3, h4⟩
def rCall (sp : Sp2) (t : TA2) : TE2 := fun δ μ q w => t δ μ (fun ds μ1 => sp ds μ1 q (fun c fs μ2 => w c fs δ μ2)) w
def rCall0 (sp : Sp2) : TE2 := fun _ μ q _ => sp [] μ q (fun _ _ _ => False)
section
variable {X : Cx} {W : WX} {x : Str} {p pos : Pos} {e : Expr} {es : List Expr} {t : TA2} {k : Nat} {ps : List Str} {sp : Sp2}
theorem d_call (F : Fn2 X.prog X.w X.K X.mg X.base k x ps sp) (hr : Room k X.A) (hg : Gl X x) (tk : Takes X W) (ha : DA X W (e :: es) t) (hdb : (x == ("__debug__" : Str)) = false := by decide)
    (he : starEach (e :: es) X.env = (false, eval e X.env) :: starEach es X.env := by rfl) (hpl : (backTo pos (starEach es X.env)).any (·.1) = false := by rfl) : DE X W (.Call (.Name x p) (e :: es) [] pos) (rCall sp t) := by
  obtain ⟨f, fd, h1, h2, h3, h4⟩ := F.ex
  exact pe_imp (pe_callS h2 hr hg h1 h3 h4 (fun σ => passAt tk σ) ha hdb he hpl) fun σ H Q ⟨Z, μ, δ, q, w, ok, rs, wk, ht, k⟩ => ⟨Z, μ, δ, _, w, ok, rs, wk, ht, fun vs H1 Z1 ds μ1 ok1 x1 r1 _ hs =>
    ⟨Z1, μ1, ds, q, _, ok1, r1, hs, Kon.on k x1, fun cls d H' Z' fs μ' ok' x' r' he => wk cls d σ H' Z' fs δ μ' ok' (x1.trans x') (rs.ext (x1.trans x') _ _) r' he⟩⟩
theorem d_call0 (F : Fn2 X.prog X.w X.K X.mg X.base k x ps sp) (hr : Room k X.A) (hg : Gl X x) (hdb : (x == ("__debug__" : Str)) = false := by decide) : DE X W (.Call (.Name x p) [] [] pos) (rCall0 sp) := by
  obtain ⟨f, fd, h1, h2, h3, h4⟩ := F.ex
  have hx : Passes (L2.CX X.prog X.w) X E0 := passL
  exact pe_imp (pe_call0 h2 hr hg h1 h3 h4 .nil hx hdb) fun σ H Q ⟨Z, μ, δ, q, w, ok, rs, wk, ht, k⟩ =>
    ⟨Z, μ, [], q, _, ok, rfl, ht, k, fun _ _ _ _ _ _ _ _ _ h => h.elim⟩
end
/-- the names' values at the entry -/
def start2 (N : List Str) (ds : List D) : S2 := ds.map some ++ List.replicate (N.length - ds.length) none
theorem repS_start {K : PySem.W.Frag} {Z : Addr → Prop} {H : Hp} (n : Nat) : ∀ {ds : List D} {vs : List V}, RepL K Z H ds vs → RepS K Z H (ds.map some ++ List.replicate n none) (vs.map some ++ List.replicate n none)
  | [], vs, r => by
    cases (show vs = [] from r)
    show RepS K Z H (List.replicate n none) (List.replicate n none)
    induction n with
    | zero => rfl
    | succ n ih => exact ⟨none, _, rfl, ih⟩
  | d :: ds, vs, r => by
    obtain ⟨v, t, rfl, r1, r2⟩ := r
    exact ⟨v, _, rfl, r1, repS_start n r2⟩
/-- how a def's body is wished for exceptions -/
abbrev WF (E : XK) : WX := fun cls d _ H => E cls d H
section
variable {P : Program} {w : World} {K : PySem.W.Frag} {mg : Str → Option Value} {base : Heap}
/-- THE RULE for a def -/
theorem fn2 {x qual : Str} {st : Stmt} {f : Addr} {fd : FuncData} {N ps : List Str} {k : Nat} {sp : Sp2} {t : TS2} (F : Fun K x qual st f fd) (S : FnScope N ps (defScope st)) (len : ∀ ds μ q e, sp ds μ q e → ds.length = ps.length)
    (hb : ∀ (cdv : Value) (A : Around) (outer : List Env) (s : Shared) (H : Hp) (E : XK), Room k (A.deeper (envOfC qual (defScope st) s.heap.objs.size f cdv)) →
      DSs (cxOf (L2.CX P w) P w K mg base N qual (defScope st) f cdv A outer s H E) (WF E) (defBody st) t)
    (hr : ∀ ds μ q e, sp ds μ q e → t { nx := fun _ μ => q .non μ, rt := q, ex := fun c fs _ μ => e c fs μ } (start2 N ds) μ) :
    FnOk P w K mg base (L2.CX P w) (k + 1) f fd ps (liftSp K sp) := by
  refine F.okX S (fun vs H Q E ⟨Z, μ, ds, q, e, ok, r, h, _⟩ => by rw [← r.length]; exact len _ _ _ _ h) (fun cdv A outer s H vs Q E hroom ⟨Z, μ, ds, q, e, ok, r, h, kq, ke⟩ => ⟨_, hb cdv A outer s H E hroom, Z, μ, start2 N ds, _, ok, ?_, ?_, hr ds μ q e h, ?_, kq⟩)
  · unfold start2 L2.start
    rw [r.length]
    exact repS_start _ r
  · exact fun cls d σ H' Z' fs δ μ' ok' x' _ xr h => ke cls d H' Z' fs μ' ok' x' xr h
  · exact fun σ' H' Z' δ' μ' ok' x' _ => ⟨fun h => kq .non H' Z' .non μ' ok' x' rfl h, fun h => h.elim, fun h => h.elim⟩
/-- a global def -/
theorem fn2_mk {x : Str} {st : Stmt} {f : Addr} {fd : FuncData} {ps : List Str} {k : Nat} {sp : Sp2} (F : Fun K x x st f fd) (hm : mg x = some (.ref f)) (b : Binds K fd ps []) (h : FnOk P w K mg base (L2.CX P w) k f fd ps (liftSp K sp)) : Fn2 P w K mg base k x ps sp :=
  ⟨f, fd, hm, h, F.kp, b⟩
end

/-! ### targets -/
def gsN : List Nat → TGs
  | [] => gNil
  | i :: r => gCons (gName i) (gsN r)
def setN : List Nat → List V → L2.St → L2.St
  | i :: r, v :: vs, σ => setN r vs (σ.set i (some v))
  | _, _, σ => σ
theorem gsN_ok : ∀ {is : List Nat} {vs : List V} {σ : L2.St} {H : Hp} {Q : L2.St → Hp → Prop}, is.length = vs.length → Q (setN is vs σ) H → gsN is vs σ H Q
  | [], [], _, _, _, _, h => ⟨rfl, h⟩
  | i :: is, v :: vs, σ, H, Q, e, h => ⟨v, vs, rfl, gsN_ok (is := is) (by simpa using e) h⟩
  | [], _ :: _, _, _, _, e, _ => by simp at e
  | _ :: _, [], _, _, _, e, _ => by simp at e
def setN2 : List Nat → List D → S2 → S2
  | i :: r, v :: vs, δ => setN2 r vs (δ.set i (some v))
  | _, _, δ => δ
theorem setN_rep {K : PySem.W.Frag} {Z : Addr → Prop} {H : Hp} : ∀ {is : List Nat} {ds : List D} {vs : List V} {δ : S2} {σ : L2.St}, RepL K Z H ds vs → RepS K Z H δ σ → RepS K Z H (setN2 is ds δ) (setN is vs σ)
  | [], ds, vs, δ, σ, _, r => r
  | i :: is, [], vs, δ, σ, h, r => by cases (show vs = [] from h); exact r
  | i :: is, d :: ds, vs, δ, σ, h, r => by
    obtain ⟨v, t, rfl, h1, h2⟩ := h
    exact setN_rep (is := is) h2 (r.set i h1)
theorem setN_wipe : ∀ {is : List Nat} {vs : List V} {σ : L2.St} {own : List Nat}, (∀ i ∈ is, i ∈ own) → wipe (setN is vs σ) own = wipe σ own
  | [], _, _, _, _ => by simp [setN]
  | i :: is, [], _, _, _ => by simp [setN]
  | i :: is, v :: vs, σ, own, h => by
    show wipe (setN is vs (σ.set i (some v))) own = _
    rw [setN_wipe (is := is) (fun j hj => h j (List.mem_cons_of_mem _ hj))]
    have hi := h i List.mem_cons_self
    clear h
    induction own with
    | nil => cases hi
    | cons j js ih =>
      unfold wipe
      by_cases e : i ∈ js
      · rw [ih e]
      · have e2 : i = j := by rcases List.mem_cons.mp hi with z | z; exact z; exact (e z).elim
        subst e2
        have key : ∀ (l : List Nat), i ∉ l → ∀ σ : L2.St, (wipe (σ.set i (some v)) l) = (wipe σ l).set i (some v) := by
          intro l
          induction l with
          | nil => intro _ _; rfl
          | cons a l ihl =>
            intro hn σ
            simp only [List.mem_cons, not_or] at hn
            unfold wipe
            rw [ihl hn.2, List.set_comm _ _ (Ne.symm hn.1)]
        rw [key js e, List.set_set]
/-- a target: one name, or names in a tuple -/
inductive Tg where
  | nm (i : Nat)
  | tp (is : List Nat)
def Tg.slots : Tg → List Nat
  | .nm i => [i]
  | .tp is => is
def Tg.g (K : PySem.W.Frag) : Tg → TG
  | .nm i => gName i
  | .tp is => gTup K is.length (gsN is)
/-- what is stored there -/
def bindT (t : Tg) (d : D) (δ : S2) : Option S2 := match t with
  | .nm i => some (δ.set i (some d))
  | .tp is => match d with
    | .tup ds => if is.length = ds.length then some (setN2 is ds δ) else none
    | _ => none
theorem bindT_ok {K : PySem.W.Frag} {Z : Addr → Prop} {H : Hp} {t : Tg} {d : D} {v : V} {δ δ' : S2} {σ : L2.St} {Q : L2.St → Hp → Prop} (r : Rep K Z H d v) (rs : RepS K Z H δ σ) (e : bindT t d δ = some δ')
    (h : ∀ σ', RepS K Z H δ' σ' → (∀ own : List Nat, (∀ i ∈ t.slots, i ∈ own) → wipe σ' own = wipe σ own) → Q σ' H) : t.g K v σ H Q := by
  cases t with
  | nm i =>
    cases e
    refine h (σ.set i (some v)) (rs.set i r) fun own ho => ?_
    exact setN_wipe (is := [i]) (vs := [v]) (σ := σ) ho
  | tp is =>
    cases d with
    | tup ds =>
      unfold bindT at e
      dsimp only at e
      split at e
      · rename_i hl
        cases e
        obtain ⟨a, xs, rfl, h1, h2⟩ := r
        refine ⟨a, xs, rfl, h1, by rw [hl, h2.length], gsN_ok (by rw [hl, h2.length]) ?_⟩
        exact h _ (setN_rep h2 rs) fun own ho => setN_wipe ho
      · cases e
    | _ => cases e
structure DG (X : Cx) (tg : Expr) (t : Tg) : Prop where
  pg : PG X tg (t.g X.K)
section
variable {X : Cx} {pos : Pos}
theorem dg_nm {i : Nat} {x : Str} (hN : X.N.Nodup) (hi : X.N[i]? = some x) (hx : Loc X.env.scope x) (hf : X.fn x = true ∨ X.env.scope.names.lookup x = some .local := by first | exact .inl rfl | exact .inr rfl | assumption) : DG X (.Name x pos) (.nm i) := ⟨pg_name hN hi hx hf⟩
abbrev DGs (X : Cx) (es : List Expr) (is : List Nat) : Prop := PGs X es (gsN is)
theorem dgs_nil : DGs X [] [] := pgs_nil
theorem dgs_cons {i : Nat} {x : Str} {es : List Expr} {is : List Nat} (hN : X.N.Nodup) (hi : X.N[i]? = some x) (hx : Loc X.env.scope x) (h2 : DGs X es is) (hf : X.fn x = true ∨ X.env.scope.names.lookup x = some .local := by first | exact .inl rfl | exact .inr rfl | assumption)
    (hs : (assignEach (.Name x pos :: es) X.env).map (·.2) = assign (.Name x pos) X.env :: (assignEach es X.env).map (·.2) := by rfl) : DGs X (.Name x pos :: es) (i :: is) := pgs_cons (pg_name hN hi hx hf) h2 hs
theorem dg_tp {es : List Expr} {k : Nat} {is : List Nat} (hc : X.calm = true) (h : DGs X es is) (hn : (assignEach es X.env).length = is.length := by rfl) (hst : (assignEach es X.env).findIdx? (·.1) = none := by rfl) : DG X (.Tuple es k pos) (.tp is) := ⟨pg_tup hc h hn hst⟩
end
/-- target = e -/
def rAsg (t : Tg) (te : TE2) : TS2 := fun E δ μ => te δ μ (fun d μ1 => match bindT t d δ with | some δ' => E.nx δ' μ1 | none => False) E.ex
section
variable {X : Cx} {W : WX} {pos : Pos} {tg e : Expr} {t : Tg} {te : TE2}
theorem ds_asg (he : DE X W e te) (hg : DG X tg t) (hs : swapsWithSole [tg] e pos.line X.env = pure false := by rfl) (hw : swappedStores [tg] e X.env = pure none := by rfl)
    (h1 : (assignEach [tg] X.env).map (·.2) = [assign tg X.env] := by rfl) : DS X W (.Assign [tg] e pos) (rAsg t te) :=
  ps_imp (ps_asg he hg.pg hs hw h1) fun D σ H ⟨Z, μ, δ, E, ok, rs, wk, ht, k, _⟩ => ⟨Z, μ, δ, _, E.ex, ok, rs, wk, ht, fun v H1 Z1 d μ1 ok1 x1 r1 h => by
    split at h
    · rename_i δ' e
      exact bindT_ok r1 (rs.ext x1 _ _) e fun σ' r' _ => (k σ' H1 Z1 δ' μ1 ok1 x1 r').1 h
    · exact h.elim⟩
end

/-! ### what is walked -/
/-- a walk gives these, one by one, while g holds of the objects -/
def ItOk (K : PySem.W.Frag) (Z : Addr → Prop) (H : Hp) (μ : Mu) (J : It) (ds : List D) (g : Mu → Prop) : Prop := ∀ Z' H' μ', Ext Z H μ Z' H' μ' → OkM K Z' H' μ' → g μ' →
  (∀ i d, ds[i]? = some d → J.go i H' ∧ ∀ x H'', J.yld i H' x H'' → Ext Z' H' μ' Z' H'' μ' ∧ OkM K Z' H'' μ' ∧ Rep K Z' H'' d x) ∧ J.stop ds.length H'
abbrev TI2 := S2 → Mu → (List D → (Mu → Prop) → Mu → Prop) → W2 → Prop
def LI (K : PySem.W.Frag) (W : WX) (t : TI2) : TI := fun σ H R => ∃ Z μ δ q w, OkM K Z H μ ∧ RepS K Z H δ σ ∧ WK K Z H μ W w ∧ t δ μ q w ∧
  ∀ J H' Z' ds g μ', OkM K Z' H' μ' → Ext Z H μ Z' H' μ' → ItOk K Z' H' μ' J ds g → q ds g μ' → R J H'
abbrev DI (X : Cx) (W : WX) (tg iter : Expr) (t : TI2) : Prop := PI X tg iter (LI X.K W t)
theorem pi_imp {X : Cx} {tg e : Expr} {t t' : TI} (h : PI X tg e t) (i : ∀ σ H Q, t' σ H Q → t σ H Q) : PI X tg e t' := ⟨fun pins s σ H Q I q => h.run pins s σ H Q I (i σ H Q q)⟩
/-- the things of a list, a tuple; a list that may be changed must stay as it is -/
def stayD (μ : Mu) (d : D) : Mu → Prop := match d with
  | .ref a => fun μ' => μ' a = μ a
  | _ => fun _ => True
def iterL (te : TE2) : TI2 := fun δ μ q w => te δ μ (fun d μ1 => match seqD μ1 d with | some ds => q ds (stayD μ1 d) μ1 | none => False) w
def iterT (te : TE2) : TI2 := fun δ μ q w => te δ μ (fun d μ1 => match d with | .tup ds => q ds (fun _ => True) μ1 | _ => False) w
def iterS (te : TE2) : TI2 := fun δ μ q w => te δ μ (fun d μ1 => match d with | .str a => q (a.map fun c => .str [c]) (fun _ => True) μ1 | _ => False) w
def intsD (n : Nat) : List D := (List.range n).map fun (i : Nat) => .int (i : Int)
def iterR (ta : TA2) : TI2 := fun δ μ q w => ta δ μ (fun ds μ1 => match ds with | [.int j] => (-(2 ^ 62) ≤ j ∧ j < 2 ^ 62) ∧ q (intsD j.toNat) (fun _ => True) μ1 | _ => False) w
def pairs (ds es : List D) : List D := List.zipWith (fun a b => .tup [a, b]) ds es
def iterE (ta : TA2) : TI2 := fun δ μ q w => ta δ μ (fun ds μ1 => match ds with | [d] => (match seqD μ1 d with | some es => q (pairs (intsD es.length) es) (stayD μ1 d) μ1 | none => False) | _ => False) w
def iterZ (ta : TA2) : TI2 := fun δ μ q w => ta δ μ (fun ds μ1 => match ds with | [d, e] => (match seqD μ1 d, seqD μ1 e with | some xs, some ys => q (pairs xs ys) (fun m => stayD μ1 d m ∧ stayD μ1 e m) μ1 | _, _ => False) | _ => False) w
theorem stay_seq {μ μ' : Mu} {d : D} {ds : List D} (e : seqD μ d = some ds) (h : stayD μ d μ') : seqD μ' d = some ds := by
  cases d with
  | ref a =>
    unfold stayD at h
    unfold seqD at e ⊢
    dsimp only at e h ⊢
    rw [h]; exact e
  | _ => exact e
/-- what a reading of a list says at a later state -/
theorem seq_later {K : PySem.W.Frag} {Z Z' : Addr → Prop} {H H' : Hp} {μ μ' : Mu} {d : D} {a : Addr} {ds : List D} (ok' : OkM K Z' H' μ') (x : Ext Z H μ Z' H' μ') (r : Rep K Z H d (.ref a)) (e : seqD μ d = some ds) (h : stayD μ d μ') : ∃ xs, SqL K H' a xs ∧ RepL K Z' H' ds xs := by
  obtain ⟨b, xs, e1, h1, h2⟩ := seqD_ok ok' (r.ext x _ _) (stay_seq e h)
  cases e1
  exact ⟨xs, h1, h2⟩
section
variable {X : Cx} {W : WX} {tg e e2 : Expr} {te : TE2} {ta : TA2} {p pos tpos : Pos}
theorem di_list (he : DE X W e te) : DI X W tg e (iterL te) := pi_imp (pi_list he) fun σ H R ⟨Z, μ, δ, q, w, ok, rs, wk, ht, k⟩ => ⟨Z, μ, δ, _, w, ok, rs, wk, ht, fun v H1 Z1 d μ1 ok1 x1 r1 h => by
  split at h
  · rename_i ds e
    obtain ⟨a, xs, rfl, h1, h2⟩ := seqD_ok ok1 r1 e
    refine ⟨a, rfl, ⟨xs, h1⟩, k _ H1 Z1 ds _ μ1 ok1 x1 (fun Z' H' μ' x' ok' g => ?_) h⟩
    obtain ⟨ys, s1, s2⟩ := seq_later ok' x' r1 e g
    refine ⟨fun i d' hd => ?_, ⟨ys, s1, by rw [s2.length]; exact Nat.le_refl _⟩⟩
    obtain ⟨v, hv, rv⟩ := s2.get hd
    refine ⟨⟨ys, v, s1, hv⟩, fun x H'' y => ?_⟩
    obtain ⟨rfl, y⟩ := y
    have := y ys s1
    rw [hv] at this; cases this
    exact ⟨Ext.refl, ok', rv⟩
  · exact h.elim⟩
theorem di_tup (he : DE X W e te) : DI X W tg e (iterT te) := pi_imp (pi_tup he) fun σ H R ⟨Z, μ, δ, q, w, ok, rs, wk, ht, k⟩ => ⟨Z, μ, δ, _, w, ok, rs, wk, ht, fun v H1 Z1 d μ1 ok1 x1 r1 h => by
  cases d with
  | tup ds =>
    obtain ⟨a, xs, rfl, h1, h2⟩ := id r1
    refine ⟨a, rfl, ⟨xs, h1⟩, k _ H1 Z1 ds _ μ1 ok1 x1 (fun Z' H' μ' x' ok' g => ?_) h⟩
    have s1 := SqT.ext x' h1
    have s2 := RepL.ext x' _ _ h2
    refine ⟨fun i d' hd => ?_, ⟨xs, s1, by rw [s2.length]; exact Nat.le_refl _⟩⟩
    obtain ⟨v, hv, rv⟩ := s2.get hd
    refine ⟨⟨xs, v, s1, hv⟩, fun x H'' y => ?_⟩
    obtain ⟨rfl, y⟩ := y
    have := y xs s1
    rw [hv] at this; cases this
    exact ⟨Ext.refl, ok', rv⟩
  | _ => exact h.elim⟩
theorem di_str (he : DE X W e te) : DI X W tg e (iterS te) := pi_imp (pi_str he) fun σ H R ⟨Z, μ, δ, q, w, ok, rs, wk, ht, k⟩ => ⟨Z, μ, δ, _, w, ok, rs, wk, ht, fun v H1 Z1 d μ1 ok1 x1 r1 h => by
  cases d with
  | str s =>
    cases r1
    refine ⟨_, rfl, k _ H1 Z1 _ _ μ1 ok1 x1 (fun Z' H' μ' x' ok' g => ⟨fun i d' hd => ?_, by show s.toArray.size ≤ _; simp⟩) h⟩
    rw [List.getElem?_map] at hd
    cases hc : s[i]? with
    | none => rw [hc] at hd; cases hd
    | some c =>
      rw [hc] at hd; cases hd
      have hi : i < s.length := (List.getElem?_eq_some_iff.mp hc).1
      refine ⟨by show i < s.toArray.size; simpa using hi, fun x H'' y => ?_⟩
      obtain ⟨rfl, c', e1, rfl⟩ := y
      have e2 : s[i]? = some c' := by simpa using e1
      rw [hc] at e2; cases e2
      exact ⟨Ext.refl, ok', rfl⟩
  | _ => exact h.elim⟩
theorem di_range {a : Expr} (hg : Gl X "range") (hm : X.mg "range" = none) (ha : DA X W [a] ta) (hs : starEach [a] X.env = [(false, eval a X.env)] := by rfl) : DI X W tg (.Call (.Name "range" p) [a] [] pos) (iterR ta) :=
  pi_imp (pi_range1 hg hm ha hs) fun σ H R ⟨Z, μ, δ, q, w, ok, rs, wk, ht, k⟩ => ⟨Z, μ, δ, _, w, ok, rs, wk, ht, fun vs H1 Z1 ds μ1 ok1 x1 r1 hlen h => by
    clear hlen
    split at h
    · rename_i j
      obtain ⟨v, rfl, r2⟩ := rep1 r1
      cases r2
      refine ⟨j, rfl, h.1.1, h.1.2, k _ H1 Z1 _ _ μ1 ok1 x1 (fun Z' H' μ' x' ok' g => ⟨fun i d' hd => ?_, by show j.toNat ≤ _; simp [intsD]⟩) h.2⟩
      unfold intsD at hd
      rw [List.getElem?_map] at hd
      by_cases hi : i < j.toNat
      · rw [List.getElem?_range hi] at hd
        cases hd
        refine ⟨hi, fun x H'' y => ?_⟩
        obtain ⟨rfl, rfl⟩ := y
        exact ⟨Ext.refl, ok', by show V.int _ = V.int _; simp⟩
      · rw [List.getElem?_eq_none (by simpa using hi)] at hd; cases hd
    · exact h.elim⟩
theorem pairs_get {ds es : List D} {i : Nat} {d : D} (h : (pairs ds es)[i]? = some d) : ∃ a b, ds[i]? = some a ∧ es[i]? = some b ∧ d = .tup [a, b] := by
  unfold pairs at h
  rw [List.getElem?_zipWith] at h
  split at h
  · rename_i a b e1 e2
    cases h
    exact ⟨a, b, e1, e2, rfl⟩
  · cases h
theorem di_enum {elts : List Expr} {kk : Nat} (hg : Gl X "enumerate") (hm : X.mg "enumerate" = none) (ha : DA X W [e] ta) (hs : starEach [e] X.env = [(false, eval e X.env)] := by rfl) : DI X W (.Tuple elts kk tpos) (.Call (.Name "enumerate" p) [e] [] pos) (iterE ta) :=
  pi_imp (pi_enum hg hm ha hs) fun σ H R ⟨Z, μ, δ, q, w, ok, rs, wk, ht, k⟩ => ⟨Z, μ, δ, _, w, ok, rs, wk, ht, fun vs H1 Z1 ds μ1 ok1 x1 r1 hlen h => by
    clear hlen
    split at h
    · rename_i d
      split at h
      · rename_i es e
        obtain ⟨v, rfl, r2⟩ := rep1 r1
        obtain ⟨a, xs, rfl, h1, h2⟩ := seqD_ok ok1 r2 e
        refine ⟨a, xs, rfl, h1, k _ H1 Z1 _ _ μ1 ok1 x1 (fun Z' H' μ' x' ok' g => ?_) h⟩
        obtain ⟨ys, s1, s2⟩ := seq_later ok' x' r2 e g
        refine ⟨fun i d' hd => ?_, ⟨ys, s1, by rw [← s2.length]; simp [pairs, intsD]⟩⟩
        obtain ⟨a1, b1, e1, e2, rfl⟩ := pairs_get hd
        obtain ⟨v, hv, rv⟩ := s2.get e2
        have e3 : a1 = .int (i : Nat) := by
          unfold intsD at e1
          rw [List.getElem?_map] at e1
          have hi : i < es.length := (List.getElem?_eq_some_iff.mp e2).1
          rw [List.getElem?_range hi] at e1
          cases e1; rfl
        subst e3
        refine ⟨⟨ys, v, s1, hv⟩, fun x H'' y => ?_⟩
        obtain ⟨T, x, rfl, nT, rfl, y⟩ := y
        have := y ys s1
        rw [hv] at this; cases this
        refine ⟨Ext.new nT, ok'.new nT, show Rep X.K Z' _ (.tup _) _ from ⟨T, [.int (i : Nat), v], rfl, SqT.of upd_same, .int (i : Nat), [v], rfl, rfl, v, [], rfl, rv.ext (Ext.new (μ := μ') nT) _ _, rfl⟩⟩
      · exact h.elim
    · exact h.elim⟩
theorem di_zip {elts : List Expr} {kk : Nat} (hg : Gl X "zip") (hm : X.mg "zip" = none) (ha : DA X W [e, e2] ta) (hs : starEach [e, e2] X.env = (false, eval e X.env) :: starEach [e2] X.env := by rfl) (hpl : (backTo pos (starEach [e2] X.env)).any (·.1) = false := by rfl) : DI X W (.Tuple elts kk tpos) (.Call (.Name "zip" p) [e, e2] [] pos) (iterZ ta) :=
  pi_imp (pi_zip hg hm ha hs hpl) fun σ H R ⟨Z, μ, δ, q, w, ok, rs, wk, ht, k⟩ => ⟨Z, μ, δ, _, w, ok, rs, wk, ht, fun vs H1 Z1 ds μ1 ok1 x1 r1 hlen h => by
    clear hlen
    split at h
    · rename_i d d2
      split at h
      · rename_i es fs e e'
        obtain ⟨v, u, rfl, r2, r3⟩ := rep2 r1
        obtain ⟨a, xs, rfl, h1, h2⟩ := seqD_ok ok1 r2 e
        obtain ⟨b, ys, rfl, h3, h4⟩ := seqD_ok ok1 r3 e'
        refine ⟨a, b, xs, ys, rfl, h1, h3, k _ H1 Z1 _ _ μ1 ok1 x1 (fun Z' H' μ' x' ok' g => ?_) h⟩
        obtain ⟨us, s1, s2⟩ := seq_later ok' x' r2 e g.1
        obtain ⟨ws, s3, s4⟩ := seq_later ok' x' r3 e' g.2
        refine ⟨fun i d' hd => ?_, ⟨us, ws, s1, s3, by rw [← s2.length, ← s4.length]; simp only [pairs, List.length_zipWith]; omega⟩⟩
        obtain ⟨a1, b1, e1, e2, rfl⟩ := pairs_get hd
        obtain ⟨v, hv, rv⟩ := s2.get e1
        obtain ⟨v2, hv2, rv2⟩ := s4.get e2
        refine ⟨⟨us, ws, v, v2, s1, s3, hv, hv2⟩, fun x H'' y => ?_⟩
        obtain ⟨T, x, y', rfl, nT, rfl, y1, y2⟩ := y
        have := y1 us s1
        rw [hv] at this; cases this
        have := y2 ws s3
        rw [hv2] at this; cases this
        refine ⟨Ext.new nT, ok'.new nT, show Rep X.K Z' _ (.tup _) _ from ⟨T, [v, v2], rfl, SqT.of upd_same, v, [v2], rfl, rv.ext (Ext.new (μ := μ') nT) _ _, v2, [], rfl, rv2.ext (Ext.new (μ := μ') nT) _ _, rfl⟩⟩
      · exact h.elim
    · exact h.elim⟩
end

/-! ### for, while -/
def rFor (wi : TI2) (t : Tg) (tb : TS2) : TS2 := fun E δ μ => wi δ μ (fun ds g μ1 => ∃ P : Nat → S2 → Mu → Prop, P 0 δ μ1 ∧ (∀ i δ μ, P i δ μ → g μ) ∧
  (∀ i d δ μ, ds[i]? = some d → P i δ μ → match bindT t d δ with | some δ' => tb { E with nx := P (i + 1), ct := P (i + 1), bk := E.nx } δ' μ | none => False) ∧ ∀ δ μ, P ds.length δ μ → E.nx δ μ) E.ex
def rWhile (c : TT2) (tb : TS2) : TS2 := fun E δ μ => ∃ P : Nat → S2 → Mu → Prop, (∃ m, P m δ μ) ∧ ∀ m δ μ, P m δ μ →
  c δ μ (fun b μ1 => if b = true then tb { E with nx := fun δ' μ' => ∃ m', m' < m ∧ P m' δ' μ', ct := fun δ' μ' => ∃ m', m' < m ∧ P m' δ' μ', bk := E.nx } δ μ1 else E.nx δ μ1) E.ex
section
variable {X : Cx} {W : WX} {tg iter c : Expr} {body : List Stmt} {wi : TI2} {t : Tg} {tb : TS2} {tc : TT2} {pos : Pos}
theorem ds_for (hp : PassesOwn (model X.prog X.w) X.A X.env X.xe) (hc : X.calm = true) (hi : DI X W tg iter wi) (hg : DG X tg t) (hb : DSs X W body tb) (hs : ∀ x, foldedSetIterable iter X.env x = pure x := by intro _; rfl) :
    DS X W (.For tg iter body [] pos) (rFor wi t tb) :=
  ps_imp (ps_for hp hc hi hg.pg hb hs) fun D σ H ⟨Z, μ, δ, E, ok, rs, wk, ht, k, kr⟩ => ⟨Z, μ, δ, _, E.ex, ok, rs, wk, ht, fun J H1 Z1 ds g μ1 ok1 x1 it ⟨P, h0, hg, hs, hd⟩ => by
    let Pv : Nat → L2.St → Hp → Prop := fun i σ' H' => ∃ Z' δ' μ', OkM X.K Z' H' μ' ∧ Ext Z1 H1 μ1 Z' H' μ' ∧ RepS X.K Z' H' δ' σ' ∧ P i δ' μ'
    refine ⟨fun i m σ' H' => m = ds.length - i ∧ i ≤ ds.length ∧ Pv i σ' H', ⟨ds.length, by simp, Nat.zero_le _, Z1, δ, μ1, ok1, Ext.refl, rs.ext x1 _ _, h0⟩, ?_⟩
    rintro i m σ' H' ⟨rfl, hle, Z', δ', μ', ok', x', r', p'⟩
    obtain ⟨it1, it2⟩ := it Z' H' μ' x' ok' (hg i δ' μ' p')
    by_cases hlt : i < ds.length
    · have hd' : ds[i]? = some ds[i] := List.getElem?_eq_getElem hlt
      obtain ⟨go, yl⟩ := it1 i _ hd'
      refine .inr ⟨go, Pv (i + 1), fun σ2 H2 p2 => ⟨ds.length - (i + 1), by omega, rfl, hlt, p2⟩, fun x H'' y => ?_⟩
      obtain ⟨x2, ok2, r2⟩ := yl x H'' y
      have step := hs i _ δ' μ' hd' p'
      split at step
      · rename_i δ2 e2
        refine bindT_ok r2 (r'.ext x2 _ _) e2 fun σ3 r3 _ => ?_
        refine ⟨Z', μ', δ2, { E with nx := P (i + 1), ct := P (i + 1), bk := E.nx }, ok2, r3, wk.on (x1.trans (x'.trans x2)), step, fun σ4 H4 Z4 δ4 μ4 ok4 x4 r4 => ?_, Kon.on kr (x1.trans (x'.trans x2))⟩
        have xa : Ext Z1 H1 μ1 Z4 H4 μ4 := x'.trans (x2.trans x4)
        exact ⟨fun h => ⟨Z4, δ4, μ4, ok4, xa, r4, h⟩, fun h => (k σ4 H4 Z4 δ4 μ4 ok4 (x1.trans xa) r4).1 h, fun h => ⟨Z4, δ4, μ4, ok4, xa, r4, h⟩⟩
      · exact step.elim
    · have e : i = ds.length := by omega
      subst e
      exact .inl ⟨it2, (k σ' H' Z' δ' μ' ok' (x1.trans x') r').1 (hd δ' μ' p')⟩⟩
theorem ds_while (hp : PassesOwn (model X.prog X.w) X.A X.env X.xe) (hc : DT X W c tc) (hb : DSs X W body tb) : DS X W (.While c body [] pos) (rWhile tc tb) :=
  ps_imp (ps_while hp hc hb) fun D σ H ⟨Z, μ, δ, E, ok, rs, wk, ⟨P, ⟨m0, h0⟩, hs⟩, k, kr⟩ => by
    refine ⟨fun m σ' H' => ∃ Z' δ' μ', OkM X.K Z' H' μ' ∧ Ext Z H μ Z' H' μ' ∧ RepS X.K Z' H' δ' σ' ∧ P m δ' μ', ⟨m0, Z, δ, μ, ok, Ext.refl, rs, h0⟩, ?_⟩
    rintro m σ' H' ⟨Z', δ', μ', ok', x', r', p'⟩
    refine ⟨Z', μ', δ', _, E.ex, ok', r', wk.on x', hs m δ' μ' p', fun b H1 Z1 μ1 ok1 x1 h => ?_⟩
    cases b with
    | true =>
      refine ⟨fun σ2 H2 => ∃ m', m' < m ∧ ∃ Z2 δ2 μ2, OkM X.K Z2 H2 μ2 ∧ Ext Z H μ Z2 H2 μ2 ∧ RepS X.K Z2 H2 δ2 σ2 ∧ P m' δ2 μ2, fun σ2 H2 ⟨m', hm, q⟩ => ⟨m', hm, q⟩, Z1, μ1, δ', { E with nx := fun δ' μ' => ∃ m', m' < m ∧ P m' δ' μ', ct := fun δ' μ' => ∃ m', m' < m ∧ P m' δ' μ', bk := E.nx }, ok1, r'.ext x1 _ _, wk.on (x'.trans x1), h, fun σ4 H4 Z4 δ4 μ4 ok4 x4 r4 => ?_, Kon.on kr (x'.trans x1)⟩
      have xa : Ext Z H μ Z4 H4 μ4 := x'.trans (x1.trans x4)
      exact ⟨fun ⟨m', hm, h⟩ => ⟨m', hm, Z4, δ4, μ4, ok4, xa, r4, h⟩, fun h => (k σ4 H4 Z4 δ4 μ4 ok4 xa r4).1 h, fun ⟨m', hm, h⟩ => ⟨m', hm, Z4, δ4, μ4, ok4, xa, r4, h⟩⟩
    | false => exact (k σ' H1 Z1 δ' μ1 ok1 (x'.trans x1) (r'.ext x1 _ _)).1 h
end

/-! ### comprehensions -/
def wipe2 (δ : S2) : List Nat → S2
  | [] => δ
  | v :: vs => (wipe2 δ vs).set v none
theorem wipe_rep {K : PySem.W.Frag} {Z : Addr → Prop} {H : Hp} {δ : S2} {σ : L2.St} (r : RepS K Z H δ σ) : ∀ vs : List Nat, RepS K Z H (wipe2 δ vs) (wipe σ vs)
  | [] => r
  | v :: vs => (wipe_rep r vs).wipe v
def LTs (K : PySem.W.Frag) (t : TT2) : TT := LT K (fun _ _ _ _ => False) t
abbrev NoW : WX := fun _ _ _ _ => False
abbrev noW : W2 := fun _ _ _ _ => False
theorem wk_no {K : PySem.W.Frag} {Z : Addr → Prop} {H : Hp} {μ : Mu} : WK K Z H μ NoW noW := fun _ _ _ _ _ _ _ _ _ _ _ _ h => h
def rYes : TT2 := fun _ μ q _ => q true μ
abbrev DTs (X : Cx) (ifs : List Expr) (t : TT2) : Prop := PTs X ifs (LT X.K NoW t)
theorem dts_nil {X : Cx} : DTs X [] rYes := ⟨fun pins s σ H Q I ⟨Z, μ, δ, q, w, ok, rs, wk, ht, k⟩ => pts_nil.run pins s σ H Q I (k true H Z μ ok Ext.refl ht)⟩
theorem dts_one {X : Cx} {c : Expr} {t : TT2} (h : DT X NoW c t) : DTs X [c] t := pts_one h
def rComp (m : Bool) (wi : TI2) (t : Tg) (own : List Nat) (tt : TT2) (te : TE2) : TE2 := fun δ μ q w => wi δ μ (fun ds g μ1 => ∃ P : Nat → List D → Mu → Prop, P 0 [] μ1 ∧ (∀ i acc μ, P i acc μ → g μ) ∧
  (∀ i d acc μ, ds[i]? = some d → P i acc μ → match bindT t d (wipe2 δ own) with
    | some δ' => tt δ' μ (fun b μ2 => if b = true then te δ' μ2 (fun y μ3 => acc.length < sizeLine ∧ P (i + 1) (acc ++ [y]) μ3) noW else P (i + 1) acc μ2) noW
    | none => False) ∧ ∀ acc μ, P ds.length acc μ → newL m acc μ q) w
theorem Ext.priv {Z : Addr → Prop} {H : Hp} {L : Addr} {u o : HO} (nz : ¬ Z L) (e : H L = some u) (m : Mut (some u)) : Ext Z H (put (fun _ => none) L (.ml [])) Z (upd H L o) (put (fun _ => none) L (.ml [])) := by
  refine ⟨fun _ h => h, fun b w z q => ?_, fun b w q nm => ?_, fun b w q n => ?_, fun b h => .inl h, fun _ h => .inl h⟩
  · rw [upd_ne (fun c => by subst c; exact nz z)]; exact q
  · rw [upd_ne (fun c => by subst c; rw [e] at q; cases q; exact nm m)]; exact q
  · rw [upd_ne (fun c => by subst c; rw [put_same] at n; cases n)]; exact q
theorem OkM.priv {K : PySem.W.Frag} {Z : Addr → Prop} {H : Hp} {μ : Mu} {L : Addr} {u o : HO} (ok : OkM K Z H μ) (nz : ¬ Z L) (e : H L = some u) (m : Mut (some u)) (n : μ L = none) : OkM K Z (upd H L o) μ := by
  have x := Ext.priv (o := o) nz e m
  refine ⟨fun b w q => ?_, fun b z => ?_⟩
  · have hb : b ≠ L := fun c => by subst c; rw [n] at q; cases q
    exact ⟨(ok.ob b w q).1, (ok.ob b w q).2.ext x (upd_ne hb)⟩
  · obtain ⟨w, q⟩ := ok.zd b z
    exact ⟨w, by rw [upd_ne (fun c => by subst c; exact nz z)]; exact q⟩
/-- a write to what was not there at the base -/
theorem Ext.late {Z Z' : Addr → Prop} {H H' : Hp} {μ μ' : Mu} {L : Addr} {o : HO} (x : Ext Z H μ Z' H' μ') (n : H L = none) : Ext Z H μ Z' (upd H' L o) μ' where
  zz := x.zz
  zk := fun a u z e => by rw [upd_ne (ne_of_none e n)]; exact x.zk a u z e
  im := fun a u e m => by rw [upd_ne (ne_of_none e n)]; exact x.im a u e m
  kp := fun a u e q => by rw [upd_ne (ne_of_none e n)]; exact x.kp a u e q
  mm := x.mm
  zn := x.zn
theorem Ext.lateZ {Z Z' : Addr → Prop} {H H' : Hp} {μ μ' : Mu} {L : Addr} (x : Ext Z H μ Z' H' μ') (n : H L = none) : Ext Z H μ (Zadd Z' L) H' μ' where
  zz := fun a h => .inl (x.zz a h)
  zk := x.zk
  im := x.im
  kp := x.kp
  mm := x.mm
  zn := fun a h => by
    rcases h with h | h
    · exact x.zn a h
    · subst h; exact .inr (.inr n)
theorem Ext.lateM {Z Z' : Addr → Prop} {H H' : Hp} {μ μ' : Mu} {L : Addr} {m : MO} (x : Ext Z H μ Z' H' μ') (n : H L = none) : Ext Z H μ Z' H' (put μ' L m) where
  zz := x.zz
  zk := x.zk
  im := x.im
  kp := x.kp
  mm := fun a h => by
    by_cases ha : a = L
    · subst ha; exact .inr n
    · rw [put_ne ha] at h; exact x.mm a h
  zn := x.zn
theorem wipe_wipe (σ : L2.St) : ∀ vs : List Nat, wipe (wipe σ vs) vs = wipe σ vs := by
  have key : ∀ (l : List Nat) (v : Nat) (σ : L2.St), wipe (σ.set v none) l = (wipe σ l).set v none := by
    intro l
    induction l with
    | nil => intro _ _; rfl
    | cons a l ih =>
      intro v σ
      unfold wipe
      rw [ih]
      by_cases e : a = v
      · subst e; rfl
      · rw [List.set_comm _ _ (Ne.symm e)]
  intro vs
  induction vs generalizing σ with
  | nil => rfl
  | cons v vs ih =>
    show (wipe ((wipe σ vs).set v none) vs).set v none = (wipe σ vs).set v none
    rw [key, ih, List.set_set]
/-- a new list that was made by a comprehension -/
theorem comp_end {K : PySem.W.Frag} {Z Z' Z1 : Addr → Prop} {H H' H1 : Hp} {μ μ' μ1 : Mu} {m : Bool} {L : Addr} {acc : List D} {xs : List V} {Q : VK} {q : Q2} (k : Kon K Z H μ Q q) (x1 : Ext Z H μ Z1 H1 μ1) (nL : H1 L = none)
    (ok' : OkM K Z' H' μ') (x' : Ext Z1 H1 μ1 Z' H' μ') (hL : H' L = some (.lst xs)) (ra : RepL K Z' H' acc xs) (nz : ¬ Z' L) (nm : μ' L = none) (h : newL m acc μ' q) : Q (.ref L) H' := by
  cases m with
  | false =>
    have x2 : Ext Z' H' (put (fun _ => none) L (.ml [])) (Zadd Z' L) H' (put (fun _ => none) L (.ml [])) := ⟨fun _ h => .inl h, fun _ _ _ h => h, fun _ _ h _ => h, fun _ _ h _ => h, fun _ h => .inl h, fun b z => by
      rcases z with z | z
      · exact .inl z
      · subst z; exact .inr (.inl (by rw [put_same]; exact fun z => by cases z))⟩
    refine k (.ref L) H' (Zadd Z' L) (.lst acc) μ' ⟨fun b u e => ?_, fun b z => ?_⟩ (x1.trans (x'.lateZ nL)) (show Rep K (Zadd Z' L) H' (.lst acc) _ from ⟨L, xs, rfl, ⟨.inr rfl, hL⟩, RepL.ext x2 _ _ ra⟩) h
    · refine ⟨fun z => z.elim (ok'.ob b u e).1 fun c => ?_, (ok'.ob b u e).2.ext x2 rfl⟩
      subst c; rw [nm] at e; cases e
    · rcases z with z | z
      · exact ok'.zd b z
      · subst z; exact ⟨_, hL⟩
  | true =>
    refine k (.ref L) H' Z' (.ref L) (put μ' L (.ml acc)) ⟨fun b u e => ?_, ok'.zd⟩ (x1.trans (x'.lateM nL)) rfl (h L nm)
    by_cases hb : b = L
    · subst hb; rw [put_same] at e; cases e
      exact ⟨nz, xs, hL, ra⟩
    · rw [put_ne hb] at e
      exact ok'.ob b u e
/-- what a comprehension's reading says of the layer's own -/
theorem comp_ok {K : PySem.W.Frag} {W : WX} {m : Bool} {wi : TI2} {t : Tg} {own : List Nat} {tt : TT2} {te : TE2} {σ : L2.St} {H : Hp} {Q : VK} (hsub : ∀ i ∈ t.slots, i ∈ own) (h : LE K W (rComp m wi t own tt te) σ H Q) :
    tLc (LI K W wi) (t.g K) (LT K NoW tt) (LE K NoW te) own σ H Q := by
  obtain ⟨Z, μ, δ, q, w, ok, rs, wk, ht, k⟩ := h
  refine ⟨Z, μ, δ, _, w, ok, rs, wk, ht, fun J H1 Z1 ds g μ1 ok1 x1 it ⟨P, h0, hg, hs, hd⟩ L nL => ?_⟩
  let Pv : Nat → Hp → Prop := fun i H' => ∃ Z' acc xs μ', OkM K Z' H' μ' ∧ Ext Z1 H1 μ1 Z' H' μ' ∧ H' L = some (.lst xs) ∧ RepL K Z' H' acc xs ∧ ¬ Z' L ∧ μ' L = none ∧ P i acc μ'
  refine ⟨fun i n H' => n = ds.length - i ∧ i ≤ ds.length ∧ Pv i H', ⟨ds.length, by simp, Nat.zero_le _, Z1, [], [], μ1, ok1.new nL, Ext.new nL, upd_same, rfl, (fun z => by obtain ⟨u, hu⟩ := ok1.zd L z; rw [nL] at hu; cases hu), ok1.fresh nL, h0⟩, ?_⟩
  rintro i n H' ⟨rfl, hle, Z', acc, xs, μ', ok', x', hL, ra, nz, nm, p'⟩
  obtain ⟨it1, it2⟩ := it Z' H' μ' x' ok' (hg i acc μ' p')
  by_cases hlt : i < ds.length
  · have hd' : ds[i]? = some ds[i] := List.getElem?_eq_getElem hlt
    obtain ⟨go, yl⟩ := it1 i _ hd'
    refine .inr ⟨go, Pv (i + 1), fun H2 p2 => ⟨ds.length - (i + 1), by omega, rfl, hlt, p2⟩, fun x H'' y => ?_⟩
    obtain ⟨x2, ok2, r2⟩ := yl x H'' y
    have step := hs i _ acc μ' hd' p'
    split at step
    · rename_i δ' e
      refine bindT_ok r2 (wipe_rep (rs.ext (x1.trans (x'.trans x2)) _ _) own) e fun σ2 r3 hw => ⟨?_, ?_⟩
      · rw [hw own hsub, wipe_wipe]
      · refine ⟨Z', μ', δ', _, noW, ok2, r3, wk_no, step, fun b H3 Z3 μ3 ok3 x3 h3 => ?_⟩
        -- what a later state keeps of the list
        have later : ∀ {Z4 H4 μ4}, Ext Z' H'' μ' Z4 H4 μ4 → H4 L = some (.lst xs) ∧ ¬ Z4 L ∧ μ4 L = none := fun {Z4 H4 μ4} x4 => by
          have hL2 := x2.kp L _ hL nm
          refine ⟨x4.kp L _ hL2 nm, fun z => ?_, ?_⟩
          · rcases x4.zn L z with z | z | z
            · exact nz z
            · exact z nm
            · rw [hL2] at z; cases z
          · cases q4 : μ4 L with
            | none => rfl
            | some u =>
              rcases x4.mm L (by rw [q4]; exact fun z => by cases z) with z | z
              · exact (z nm).elim
              · rw [hL2] at z; cases z
        cases b with
        | true =>
          refine ⟨Z3, μ3, δ', _, noW, ok3, r3.ext x3 _ _, wk_no, h3, fun yv H4 Z4 dy μ4 ok4 x4 r4 h4 => ?_⟩
          obtain ⟨l1, l2, l3⟩ := later (x3.trans x4)
          have xa : Ext Z' H' μ' Z4 H4 μ4 := x2.trans (x3.trans x4)
          have xp := Ext.priv (o := .lst (xs ++ [yv])) l2 l1 trivial
          have ra4 : RepL K Z4 H4 (acc ++ [dy]) (xs ++ [yv]) := (RepL.ext xa _ _ ra).append ⟨yv, [], rfl, r4, rfl⟩
          refine ⟨xs, l1, by rw [← ra.length]; exact h4.1, Z4, acc ++ [dy], xs ++ [yv], μ4, ok4.priv l2 l1 trivial l3, (x'.trans xa).late nL, upd_same, RepL.ext xp _ _ ra4, l2, l3, h4.2⟩
        | false =>
          obtain ⟨l1, l2, l3⟩ := later x3
          exact ⟨Z3, acc, xs, μ3, ok3, x'.trans (x2.trans x3), l1, RepL.ext (x2.trans x3) _ _ ra, l2, l3, h3⟩
    · exact step.elim
  · have e : i = ds.length := by omega
    subst e
    exact .inl ⟨it2, comp_end k x1 nL ok' x' hL ra nz nm (hd acc μ' p')⟩
section
variable {X : Cx} {W : WX} {elt tg iter : Expr} {ifs : List Expr} {scope : Scope} {own : List (Str × Nat)} {pos spos py : Pos} {wi : TI2} {t : Tg} {tt : TT2} {te : TE2}
/-- [elt for target in iter if ..] as a value -/
theorem d_comp (m : Bool) (hc : X.calm = true) (hN : X.N.Nodup) (hi : DI X W tg iter wi) (ok : BlkOk X.N X.env.scope scope own)
    (hg : ∀ (s : Shared) (H : Hp) (C : Addr) (cl : List (Str × Addr)) (fp : List Addr), DG (X.blk s H scope (compEnvC scope cl C X.env) fp) tg t) (ht : ∀ (s : Shared) (H : Hp) (C : Addr) (cl : List (Str × Addr)) (fp : List Addr), DTs (X.blk s H scope (compEnvC scope cl C X.env) fp) ifs tt)
    (he : ∀ (s : Shared) (H : Hp) (C : Addr) (cl : List (Str × Addr)) (fp : List Addr), DE (X.blk s H scope (compEnvC scope cl C X.env) fp) NoW elt te) (hsub : ∀ i ∈ t.slots, i ∈ own.map (·.2)) (hs : ∀ x, foldedSetIterable iter X.env x = pure x := by intro _; rfl) :
    DE X W (.ListComp elt [⟨tg, iter, ifs, 0⟩] scope pos) (rComp m wi t (own.map (·.2)) tt te) :=
  pe_imp (pe_lc hc hN hi ok (fun s H C cl fp => (hg s H C cl fp).pg) ht he hs) fun σ H Q h => comp_ok hsub h
/-- y = [elt for target in iter if ..] -/
theorem ds_comp {i : Nat} {y : Str} (m : Bool) (hc : X.calm = true) (hN : X.N.Nodup) (hy : X.N[i]? = some y) (hyl : X.env.scope.names.lookup y = some .local)
    (hsw : swapsWith (.ListComp elt [⟨tg, iter, ifs, 0⟩] scope pos) (some (.Name y py)) spos.line X.env = pure true) (hi : DI X W tg iter wi) (ok : BlkOk X.N X.env.scope scope own)
    (hg : ∀ (s : Shared) (H : Hp) (C : Addr) (cl : List (Str × Addr)) (fp : List Addr), DG (X.blk s H scope (compEnvC scope cl C X.env) fp) tg t) (ht : ∀ (s : Shared) (H : Hp) (C : Addr) (cl : List (Str × Addr)) (fp : List Addr), DTs (X.blk s H scope (compEnvC scope cl C X.env) fp) ifs tt)
    (he : ∀ (s : Shared) (H : Hp) (C : Addr) (cl : List (Str × Addr)) (fp : List Addr), DE (X.blk s H scope (compEnvC scope cl C X.env) fp) NoW elt te) (hsub : ∀ i ∈ t.slots, i ∈ own.map (·.2)) (hs : ∀ x, foldedSetIterable iter X.env x = pure x := by intro _; rfl) :
    DS X W (.Assign [.Name y py] (.ListComp elt [⟨tg, iter, ifs, 0⟩] scope pos) spos) (rSet i (rComp m wi t (own.map (·.2)) tt te)) :=
  ps_imp (ps_setLc hc hN hy hyl hsw hi ok (fun s H C cl fp => (hg s H C cl fp).pg) ht he hs) fun D σ H ⟨Z, μ, δ, E, ok, rs, wk, h, k, _⟩ =>
    comp_ok hsub ⟨Z, μ, δ, _, E.ex, ok, rs, wk, h, fun v H1 Z1 d μ1 ok1 x1 r1 h1 => (k _ H1 Z1 _ μ1 ok1 x1 ((rs.ext x1 _ _).set i r1)).1 h1⟩
end
end D2

set_option Elab.async false
set_option linter.all false
set_option maxRecDepth 100000
set_option maxHeartbeats 2000000
/-! the data layer: own exceptions -/
namespace D2
open PySem PySem.Spec PyProof.Rows L2

/-! ### S.__init__(self, ..), S a class without an own __init__ -/
structure ViC (K : PySem.W.Frag) (S : Addr) : Prop where
  ga : PySem.W.specialIn K (.ref S) "__getattribute__" = some (some (.builtin "type.__getattribute__"))
  rd : PySem.W.readsIn K S (.type "type") = true
  fd : PySem.W.findCls K (.ref S) (.type "type") "__init__" = some (.val (.builtin "ValueError.__init__"))
section
variable {X : Cx} {e : Expr} {es : List Expr} {ta : TA} {p1 p2 pos : Pos} {x : Str} {S : Addr}
theorem pe_viown {pl : Sem Bool} (V : ViC X.K S) (hg : Gl X x) (hm : X.mg x = some (.ref S)) (ha : PA X (e :: es) ta)
    (hc : eval (.Call (.Attribute (.Name x p1) "__init__" p2) (e :: es) [] pos) X.env = (do
      let ov ← eval (.Name x p1) X.env
      standAt p2.atName
      let (f, first) ← holding [ov] (getMethod ov "__init__" pl)
      callWith pos f first (backTo pos (starEach (e :: es) X.env)) (backToKw pos (keywordEach [] X.env))) := by rfl) (hdb : (x == ("__debug__" : Str)) = false := by decide)
    (he : starEach (e :: es) X.env = (false, eval e X.env) :: starEach es X.env := by rfl) (hpl : (backTo pos (starEach es X.env)).any (·.1) = false := by rfl) :
    PE X (.Call (.Attribute (.Name x p1) "__init__" p2) (e :: es) [] pos) (tVeI X.K ta) := by
  refine ⟨fun pins s σ H Q I h => ?_⟩
  refine PySem.W.methodCall_KW (ld_glob I hg hm ?_ hdb) hc
  refine PySem.W.method_cls I.kIn V.ga (PySem.W.cls_value I.kIn V.rd V.fd (by decide +kernel) ?_)
  show wpAny _ _ (callWith pos (Value.builtin "ValueError.__init__") [] (backTo pos (starEach (e :: es) X.env)) []) _ _ _
  refine PyProof.Rows.callWith_method1 (thn (ha.run pos pins _ σ H _ (I.tok _) h) fun us s1 ⟨vs, H1, I1, r1, a, C, ws, ev, hl, T, ea, q⟩ => ?_) he hpl
  subst ev
  cases r1 with
  | @cons _ u0 _ ur ra rw' =>
    obtain rfl : u0 = Value.ref a := ra
    have hlen : ur.length ≤ sizeLine := by
      rw [← Paired.length rw', sizeLine_eq]
      omega
    exact oinit_ok T I1 ea hlen fun s' J => ⟨.non, H1, J, rfl, q⟩
end

/-! ### an own __init__: S.__init__(self, text), then self.f = .. -/
/-- the fields, each with the slot of its parameter -/
def tAss (K : PySem.W.Frag) : List (Str × Nat) → TS
  | [] => tNext
  | (f, i) :: r => tSeq (tOst K f (tVar 0) (tVar i)) (tAss K r)
inductive Ass (X : Cx) : List Stmt → List (Str × Nat) → Prop
  | nil : Ass X [] []
  | cons {f : Str} {i : Nat} {o e : Expr} {p' pos : Pos} {r : List Stmt} {l : List (Str × Nat)} (ho : PE X o (tVar 0)) (he : PE X e (tVar i)) (hs : swapsWith e (some (.Attribute o f p')) pos.line X.env = pure false) (hr : Ass X r l) :
    Ass X (.Assign [.Attribute o f p'] e pos :: r) ((f, i) :: l)
theorem Ass.pss {X : Cx} {b : List Stmt} {l : List (Str × Nat)} (h : Ass X b l) : PSs X b (tAss X.K l) := by
  induction h with
  | nil => exact pss_nil
  | cons ho he hs hr ih => exact pss_cons (ps_ost ho he hs) ih
/-- what such a def promises: ns the fields' names in order -/
def spI (K : PySem.W.Frag) (ns : List Str) : Sp := fun vs H Q _ => ∃ (a C : Addr) (ws : List V), vs = .ref a :: ws ∧ ws.length = ns.length ∧ ns.length ≤ 9 ∧ ns ≠ [] ∧ OexC K C ∧ (∀ f ∈ ns, PySem.W.findIn K (.ref C) f = some none) ∧ H a = some (exo a C none) ∧
  ∀ H2 dx, H dx = none → dx ≠ a → H2 a = some (exo a C (some dx)) → H2 dx = some (exd dx (ns.zip ws).reverse) → (∀ b, b ≠ a → b ≠ dx → H2 b = H b) → Q .non H2
theorem ass_go {K : PySem.W.Frag} {C a dx : Addr} {σ : L2.St} (T : OexC K C) (n : dx ≠ a) (h0 : σ[0]? = some (some (.ref a))) : ∀ (ns : List Str) (ws : List V) (j : Nat) (fs : List (Str × V)) (D : Ends) (H : Hp), ns.length = ws.length →
    (∀ i y, ws[i]? = some y → σ[j + i]? = some (some y)) → (∀ f ∈ ns, PySem.W.findIn K (.ref C) f = some none) → H a = some (exo a C (some dx)) → H dx = some (exd dx fs) → fs.length + ns.length ≤ 900 →
    (∀ H2, H2 a = some (exo a C (some dx)) → H2 dx = some (exd dx ((ns.zip ws).reverse ++ fs)) → (∀ b, b ≠ dx → H2 b = H b) → D.nx σ H2) → tAss K (ns.zipIdx j) D σ H
  | [], [], j, fs, D, H, hl, hw, hno, ea, ed, hz, k => k H ea ed fun _ _ => rfl
  | f :: ns, w :: ws, j, fs, D, H, hl, hw, hno, ea, ed, hz, k => by
    have hw0 : σ[j]? = some (some w) := hw 0 w rfl
    refine ⟨w, hw0, .ref a, h0, a, C, rfl, T, hno f (by simp), .inr ⟨dx, fs, ea, ed, by simp at hz; omega, ?_⟩⟩
    refine ass_go T n h0 ns ws (j + 1) ((f, w) :: fs) D (upd H dx (exd dx ((f, w) :: fs))) (by simpa using hl) (fun i y e => ?_) (fun g hg => hno g (by simp [hg])) ?_ upd_same (by simp at hz ⊢; omega) fun H2 e1 e2 e3 => ?_
    · have := hw (i + 1) y (by simpa using e)
      rwa [show j + 1 + i = j + (i + 1) from by omega]
    · rw [upd_ne (Ne.symm n)]; exact ea
    · refine k H2 e1 ?_ fun b hb => ?_
      · rw [e2]; simp
      · rw [e3 b hb, upd_ne hb]
  | [], _ :: _, _, _, _, _, hl, _, _, _, _, _, _ => by simp at hl
  | _ :: _, [], _, _, _, _, hl, _, _, _, _, _, _ => by simp at hl
section
variable {P : Program} {w : World} {K : PySem.W.Frag} {mg : Str → Option Value} {base : Heap}
/-- THE RULE for such an __init__ -/
theorem ini2 {CX : CXT} {x qual : Str} {params : Arguments} {scope : Scope} {dvs : List V} {kws : List (Str × V)} {f : Addr} {fd : FuncData} {N ps ns : List Str} {k : Nat} {st0 : Stmt} {rest : List Stmt} (F : FunD K x qual params (st0 :: rest) scope dvs kws f fd) (S : FnScope N ps scope)
    (hl : ps.length = ns.length + 1) (hN : N = ps)
    (h0 : ∀ (cdv : Value) (A : Around) (outer : List Env) (s : Shared) (H : Hp) (E : XK), ∃ v, PS (cxOf CX P w K mg base N qual scope f cdv A outer s H E) st0 (tDrop (tVeI K (tCons (tVar 0) (tCons (tC v) tNil)))))
    (h1 : ∀ (cdv : Value) (A : Around) (outer : List Env) (s : Shared) (H : Hp) (E : XK), Ass (cxOf CX P w K mg base N qual scope f cdv A outer s H E) rest (ns.zipIdx 1)) :
    FnOk P w K mg base CX (k + 1) f fd ps (spI K ns) := by
  subst hN
  refine F.ok S (fun vs H Q E ⟨a, C, ws, e, h, _⟩ => by subst e; simp [h, hl]) (fun cdv A outer s H vs Q E hr ⟨a, C, ws, e, hw, h9, hne, T, hno, ea, hq⟩ => ?_)
  subst e
  have hst : L2.start N (.ref a :: ws) = some (.ref a) :: ws.map some := by
    unfold L2.start
    have : N.length - (V.ref a :: ws).length = 0 := by simp [hw, hl]
    rw [this]; simp
  have z := h0 cdv A outer s H E
  obtain ⟨v, z⟩ := z
  refine ⟨_, pss_cons z (h1 cdv A outer s H E).pss, ?_⟩
  rw [hst]
  refine ⟨.ref a, rfl, a, C, [v], rfl, by simp, T, ea, ?_⟩
  cases ns with
  | nil => exact (hne rfl).elim
  | cons g ns =>
    cases ws with
    | nil => simp at hw
    | cons y ws =>
      show tAss K ((g, 1) :: ns.zipIdx 2) _ _ _
      refine ⟨y, rfl, .ref a, rfl, a, C, rfl, T, hno g (by simp), .inl ⟨ea, fun dx nd ne => ?_⟩⟩
      refine ass_go T ne rfl ns ws 2 [(g, y)] _ _ (by simpa using hw.symm) (fun i y' e => ?_) (fun f hf => hno f (by simp [hf])) upd_same (by rw [upd_ne ne]; exact upd_same) (by simp at h9 ⊢; omega) fun H2 e1 e2 e3 => ?_
      · show (some (V.ref a) :: some y :: ws.map some)[2 + i]? = _
        rw [show 2 + i = i + 1 + 1 from by omega]; simp [e]
      · refine hq H2 dx nd ne e1 ?_ fun b hb hd => ?_
        · rw [e2]; simp
        · rw [e3 b hd, upd_ne hb, upd_ne hd]
end

/-! ### raise -/
structure Mk2 (P : Program) (w : World) (K : PySem.W.Frag) (mg : Str → Option Value) (base : Heap) (k : Nat) (x : Str) (C : Addr) (ns : List Str) : Prop where
  at_ : mg x = some (.ref C)
  oex : OexC K C
  ini : ∃ fI fd ps, PySem.W.findIn K (.ref C) "__init__" = some (some (.ref fI)) ∧ PySem.W.typeIn K (.ref fI) = some (.type "function") ∧ FnOk P w K mg base (L2.CX P w) k fI fd ps (spI K ns) ∧ Binds K fd ps []
  no : ∀ f ∈ ns, PySem.W.findIn K (.ref C) f = some none
  ne : ns ≠ []
  le : ns.length ≤ 9
theorem repF_zip {K : PySem.W.Frag} {Z : Addr → Prop} {H : Hp} : ∀ {ns : List Str} {ds : List D} {vs : List V}, RepL K Z H ds vs → RepF K Z H (ns.zip ds) (ns.zip vs)
  | [], _, _, _ => by simp only [List.zip_nil_left]; rfl
  | _ :: _, [], vs, r => by cases (show vs = [] from r); simp only [List.zip_nil_right]; rfl
  | n :: ns, d :: ds, vs, r => by
    obtain ⟨v, t, rfl, h1, h2⟩ := r
    exact ⟨v, _, rfl, h1, repF_zip h2⟩
theorem RepF.append {K : PySem.W.Frag} {Z : Addr → Prop} {H : Hp} : ∀ {ds es : List (Str × D)} {vs us : List (Str × V)}, RepF K Z H ds vs → RepF K Z H es us → RepF K Z H (ds ++ es) (vs ++ us)
  | [], es, _, us, h, h' => by cases (show _ = [] from h); exact h'
  | (n, d) :: ds, es, _, us, h, h' => by
    obtain ⟨v, r, rfl, h1, h2⟩ := h
    exact ⟨v, r ++ us, rfl, h1, RepF.append h2 h'⟩
theorem RepF.reverse {K : PySem.W.Frag} {Z : Addr → Prop} {H : Hp} : ∀ {ds : List (Str × D)} {vs : List (Str × V)}, RepF K Z H ds vs → RepF K Z H ds.reverse vs.reverse
  | [], _, h => by cases (show _ = [] from h); exact rfl
  | (n, d) :: ds, _, h => by
    obtain ⟨v, r, rfl, h1, h2⟩ := h
    rw [List.reverse_cons, List.reverse_cons]
    exact RepF.append (RepF.reverse h2) ⟨v, [], rfl, h1, rfl⟩
theorem RepF.unzip {K : PySem.W.Frag} {Z : Addr → Prop} {H : Hp} : ∀ {ds : List (Str × D)} {vs : List (Str × V)}, RepF K Z H ds vs → ∃ xs, vs = (ds.map (·.1)).zip xs ∧ RepL K Z H (ds.map (·.2)) xs
  | [], _, h => by cases (show _ = [] from h); exact ⟨[], rfl, rfl⟩
  | (n, d) :: ds, _, h => by
    obtain ⟨v, r, rfl, h1, h2⟩ := h
    obtain ⟨xs, e, h3⟩ := RepF.unzip h2
    exact ⟨v :: xs, by rw [e]; rfl, v, xs, rfl, h1, h3⟩
/-- raise C(..): its fields as they stand -/
def rRaise (c : Value) (ns : List Str) (ta : TA2) : TS2 := fun E δ μ => ta δ μ (fun ds μ1 => E.ex c (ns.zip ds).reverse δ μ1) E.ex
def rRaise0 (c : Value) : TS2 := fun E δ μ => E.ex c [] δ μ
section
variable {X : Cx} {W : WX} {x : Str} {e : Expr} {es : List Expr} {ta : TA2} {p p2 pos pos' : Pos} {C : Addr} {ns : List Str} {k : Nat}
theorem ds_raise (hc : X.calm = true) (tk : Takes X W) (M : Mk2 X.prog X.w X.K X.mg X.base k x C ns) (hr : Room (k + 1) X.A) (hg : Gl X x) (hn : (e :: es).length = ns.length) (ha : DA X W (e :: es) ta)
    (hdb : (x == ("__debug__" : Str)) = false := by decide) (he : starEach (e :: es) X.env = (false, eval e X.env) :: starEach es X.env := by rfl) (hpl : (backTo pos (starEach es X.env)).any (·.1) = false := by rfl) :
    DS X W (.Raise (some (.Call (.Name x p) (e :: es) [] pos)) none pos') (rRaise (.ref C) ns ta) := by
  obtain ⟨fI, fd, ps, h1, h2, h3, h4⟩ := M.ini
  refine ps_imp (ps_raise hc tk (pmk_oex (dvs := []) M.oex h1 h2 h3 hr h4 .nil passL hg M.at_ ha hdb he hpl)) fun D σ H ⟨Z, μ, δ, E, ok, rs, wk, ht, hn', hr'⟩ => ?_
  refine ⟨Z, μ, δ, _, E.ex, ok, rs, wk, ht, fun vs H1 Z1 ds μ1 ok1 x1 r1 hl hx => ⟨?_, fun a na => ?_⟩⟩
  · rw [← r1.length, hl, hn]; have := M.le; omega
  · refine ⟨a, C, vs, by simp, ?_, M.le, M.ne, M.oex, M.no, upd_same, fun H2 dx nd ne e1 e2 e3 => ⟨rfl, dx, _, e1, e2, ?_, ?_⟩⟩
    · rw [← r1.length, hl, hn]
    · rwa [upd_ne ne] at nd
    · have nd1 : H1 dx = none := by rwa [upd_ne ne] at nd
      have eH : upd (del H2 a) dx (.xd (ns.zip vs).reverse) = upd H1 dx (.xd (ns.zip vs).reverse) := by
        funext b
        by_cases hb : b = dx
        · subst hb; rw [upd_same, upd_same]
        · rw [upd_ne hb, upd_ne hb]
          by_cases hba : b = a
          · subst hba; rw [del_same, na]
          · rw [del_ne hba, e3 b hba hb, upd_ne hba]
      rw [eH]
      exact wk (.ref C) (some dx) σ _ Z1 _ δ μ1 (ok1.new nd1) (x1.trans (Ext.new nd1)) (rs.ext (x1.trans (Ext.new nd1)) _ _) (.inr ⟨dx, _, rfl, upd_same, RepF.reverse (repF_zip (RepL.ext (Ext.new (μ := μ1) nd1) _ _ r1))⟩) hx
/-- an own class without own __init__, made with a text -/
structure Mk0 (K : PySem.W.Frag) (mg : Str → Option Value) (x : Str) (C : Addr) : Prop where
  at_ : mg x = some (.ref C)
  exc : PySem.W.excIn K C He.veBase "ValueError.__new__" = true
  keep : PySem.W.keepIn K (.ref C) = true
  sub : PySem.W.subIn K (.ref C) (.type "BaseException") = some true
  ty : PySem.W.typeIn K (.ref C) = some (.type "type")
theorem ds_raise0 {m : Str} {j : Nat} (hc : X.calm = true) (tk : Takes X W) (M : Mk0 X.K X.mg x C) (hg : Gl X x) (hdb : (x == ("__debug__" : Str)) = false := by decide) :
    DS X W (.Raise (some (.Call (.Name x p) [.Constant (.str m) j p2] [] pos)) none pos') (rRaise0 (.ref C)) :=
  ps_imp (ps_raise hc tk (pmk_own PySem.F.excBase_ValueError M.exc M.at_ M.keep (raises_own M.sub M.ty) hg hdb)) fun D σ H ⟨Z, μ, δ, E, ok, rs, wk, ht, hn', hr'⟩ =>
    wk (.ref C) none σ H Z [] δ μ ok Ext.refl rs (.inl ⟨rfl, rfl⟩) ht
end

/-! ### try: .. except C as e: .. -/
def rTry (K : PySem.W.Frag) (c : Value) (i : Nat) (tb : TS2) (ts : Addr → Option Addr → Value → TS2) : TS2 := fun E δ μ => tb { E with ex := fun cls fs δ' μ' => ∃ b, PySem.W.exmOne K cls c = some b ∧
  (b = true → ∀ a d, ts a d cls { nx := fun δ2 μ2 => E.nx (δ2.set i none) μ2, rt := E.rt, bk := fun δ2 μ2 => E.bk (δ2.set i none) μ2, ct := fun δ2 μ2 => E.ct (δ2.set i none) μ2, ex := noW } (δ'.set i (some (.exn a d cls (fs.map (·.1)) (fs.map (·.2))))) μ') ∧
  (b = false → E.ex cls fs δ' μ') } δ μ
theorem takes_no {X : Cx} : Takes X NoW := fun _ _ ⟨_, _, _, _, _, _, _, _, _, _, _, _, _, _, _, _, h⟩ => h.elim
section
variable {X : Cx} {W : WX} {x n : Str} {c : Value} {i : Nat} {body suite : List Stmt} {b₀ : Stmt} {np pos pos' : Pos} {tb : TS2} {ts : Addr → Option Addr → Value → TS2}
theorem ds_try_as (hs : X.stack = X.env :: X.outer) (hf : X.env.frame = some X.env.locals) (hN : X.N.Nodup) (hi : X.N[i]? = some n) (hln : X.env.kindOf n = some .local) (hc : Names X x c) (tk : Takes X W)
    (hb : ∀ (W' : WX) (pn : List (Addr × Obj)) (xe : Value → Shared → Prop), Takes (X.tr pn xe) W' → PassesOwn (model X.prog X.w) X.A X.env xe → DSs (X.tr pn xe) W' body tb)
    (hsu : ∀ (a : Addr) (oe : Obj) (cls : Value) (d : Option Addr) (pn : List (Addr × Obj)), Zc cls d oe → (∃ vs, oe.data = .fields vs) → DSs (X.suite a ((a, oe) :: pn)) NoW (b₀ :: suite) (ts a d cls)) :
    DS X W (.Try body [.ExceptHandler (some (.Name x np)) (some n) (b₀ :: suite) pos'] [] [] pos) (rTry X.K c i tb ts) := by
  refine ps_imp (ps_try_as (tb := fun W' => LS X.K W' tb) (ts := fun a cls d => LS X.K NoW (ts a d cls)) hs hf hN hi hln hc tk hb hsu) fun D σ H ⟨Z, μ, δ, E, ok, rs, wk, ht, hn, hr⟩ => ?_
  refine ⟨Z, μ, δ, _, ok, rs, ?_, ht, hn, hr⟩
  rintro cls d σ' H' Z' fs δ' μ' ok' x' rs' xr ⟨b, e, h1, h2⟩
  refine ⟨b, e, fun eb a na => ?_, fun eb => wk cls d σ' H' Z' fs δ' μ' ok' x' rs' xr (h2 eb)⟩
  have rx : Rep X.K Z' H' (.exn a d cls (fs.map (·.1)) (fs.map (·.2))) (.ref a) := by
    refine ⟨rfl, ?_⟩
    rcases xr with ⟨e1, e2⟩ | ⟨dx, fv, e1, e2, r⟩
    · subst e2; exact .inl ⟨e1, rfl⟩
    · obtain ⟨xs, e3, r2⟩ := RepF.unzip r
      exact .inr ⟨dx, xs, e1, by rw [e2, e3], r2⟩
  refine ⟨Z', μ', _, _, ok', RepS.set i rs' rx, wk_no, h1 eb a d, fun σ2 H2 Z2 δ2 μ2 ok2 x2 rs2 => ?_, fun v H2 Z2 dv μ2 ok2 x2 rv h => hr v H2 Z2 dv μ2 ok2 (x'.trans x2) rv h⟩
  have z := hn (σ2.set i none) H2 Z2 (δ2.set i none) μ2 ok2 (x'.trans x2) (RepS.wipe i rs2)
  exact ⟨fun h => z.1 h, fun h => z.2.1 h, fun h => z.2.2 h⟩
end

/-! ### within the suite -/
/-- isinstance(e, C) -/
def rIsE2 (K : PySem.W.Frag) (a : Addr) (d : Option Addr) (cls : Value) : List V → Hp → VK → Prop := fun xs H Q => ∃ (D : Addr) (c : V) (cv : Value) (b : Bool), cls = .ref D ∧ ExcC K D ∧ xs = [.ref a, c] ∧ (∀ u, RelV c u → u = cv) ∧ PySem.W.kitOne K (.ref D) cv = some b ∧
  (d = none ∨ ∃ dx fv, d = some dx ∧ H dx = some (.xd fv)) ∧ Q (.bl b) H
theorem call_isE2 {X : Cx} {a : Addr} {oe : Obj} {d : Option Addr} {cls : Value} {pn : List (Addr × Obj)} (hz : Zc cls d oe) (hf : ∃ vs, oe.data = .fields vs) : CallR (X.suite a ((a, oe) :: pn)) (.builtin "isinstance") (rIsE2 X.K a d cls) := by
  intro pins s σ H xs us Q I r h
  obtain ⟨D, c, cv, b, ec, C, rfl, hcv, e, hd, q⟩ := h
  subst ec
  cases r with
  | cons rx rr =>
    cases rr with
    | cons rt rr =>
      cases rr
      cases rx
      have ec := hcv _ rt
      subst ec
      obtain ⟨hget, _⟩ := I.pin (a, oe) (List.mem_append.mpr (.inl List.mem_cons_self))
      obtain ⟨vs, hv⟩ := hf
      have J : ∃ od, PySem.W.InstAt s.heap a oe D od := by
        obtain ⟨h1, h2⟩ := hz
        have hno : PySem.W.notCls oe = true := by unfold PySem.W.notCls; rw [hv] <;> rfl
        rcases hd with hd | ⟨dx, fv, hd, ed⟩
        · exact ⟨none, hget, h1, hno, by rw [h2, hd]; trivial⟩
        · obtain ⟨mA, hns, _⟩ := (show ObjOk X.prog X.w H s.heap dx (.xd fv) from I.hok dx _ ed)
          obtain ⟨od, ho, _⟩ := lookIn_ns hns
          exact ⟨some od, hget, h1, hno, by rw [h2, hd]; exact ho⟩
      obtain ⟨od, J⟩ := J
      have hcl : (PySem.W.clsIn X.K D).isSome = true := by
        obtain ⟨cd, hc, _⟩ := PySem.W.any_some C.hd
        rw [hc]; rfl
      exact PySem.W.kia_one (PySem.W.kitx_exc hcl C.hg C.hk C.hs C.ha C.hn C.ht C.hm) I.kIn J e (fun z => nomatch z) fun tk => ⟨.bl b, H, I.kept (t' := tk) fun _ _ z => z, rfl, q⟩
def cvD : D → Option Value
  | .opq (.ref C) => some (.ref C)
  | .opq (.ty n) => some (.type n)
  | .bt b => some (.type b.nm)
  | _ => none
theorem cvD_ok {K : PySem.W.Frag} {Z : Addr → Prop} {H : Hp} {d : D} {v : V} {cv : Value} (r : Rep K Z H d v) (e : cvD d = some cv) : ∀ u, RelV v u → u = cv := by
  unfold cvD at e
  split at e
  · cases e; cases r; exact fun u h => h
  · cases e; cases r; exact fun u h => h
  · cases e; cases r; exact fun u h => h
  · cases e
def isxC (K : PySem.W.Frag) (a : Addr) (d : Option Addr) (cls : Value) : RCD := fun ds μ q => match ds with
  | [.exn a' d' cls' ns es, y] => (match cvD y with
    | some cv => (a' = a ∧ d' = d) ∧ ∃ D b, cls = .ref D ∧ ExcC K D ∧ PySem.W.kitOne K (.ref D) cv = some b ∧ q (.bl b) μ
    | none => False)
  | _ => False
theorem c_isx {X : Cx} {a : Addr} {oe : Obj} {d : Option Addr} {cls : Value} {pn : List (Addr × Obj)} (hz : Zc cls d oe) (hf : ∃ vs, oe.data = .fields vs) : CallD (X.suite a ((a, oe) :: pn)) (.builtin "isinstance") (isxC X.K a d cls) := by
  refine ⟨_, call_isE2 hz hf, fun Z H μ xs ds Q q ok r h k => ?_⟩
  unfold isxC at h
  split at h
  · rename_i a' d' cls' ns es y
    obtain ⟨v, u, rfl, r1, r2⟩ := rep2 r
    split at h
    · rename_i cv ecv
      obtain ⟨⟨rfl, rfl⟩, D, b, ec, C, e, h⟩ := h
      obtain ⟨rfl, hd⟩ := r1
      refine ⟨D, u, cv, b, ec, C, rfl, cvD_ok r2 ecv, e, ?_, k _ H Z (.bl _) μ ok Ext.refl rfl h⟩
      rcases hd with ⟨h1, _⟩ | ⟨dx, xs, h1, h2, _⟩
      · exact .inl h1
      · exact .inr ⟨dx, _, h1, h2⟩
    · exact h.elim
  · exact h.elim
theorem isx_go {K : PySem.W.Frag} {a C C' : Addr} {d : Option Addr} {c : Value} {ns : List Str} {es : List D} {b : Bool} {μ : Mu} {q : Q2} (hC : ExcC K C) (hk : PySem.W.kitOne K (.ref C) (.ref C') = some b) :
    isxC K a d (.ref C) [.exn a d c ns es, .opq (.ref C')] μ q = q (.bl b) μ := by
  refine propext ⟨fun ⟨_, E, b', e, _, hk', h⟩ => ?_, fun h => ⟨⟨rfl, rfl⟩, C, b, rfl, hC, hk, h⟩⟩
  cases e
  rw [hk] at hk'
  cases hk'
  exact h
theorem isx_goT {K : PySem.W.Frag} {a C : Addr} {n : String} {d : Option Addr} {c : Value} {ns : List Str} {es : List D} {b : Bool} {μ : Mu} {q : Q2} (hC : ExcC K C) (hk : PySem.W.kitOne K (.ref C) (.type n) = some b) :
    isxC K a d (.ref C) [.exn a d c ns es, .opq (.ty n)] μ q = q (.bl b) μ := by
  refine propext ⟨fun ⟨_, E, b', e, _, hk', h⟩ => ?_, fun h => ⟨⟨rfl, rfl⟩, C, b, rfl, hC, hk, h⟩⟩
  cases e
  rw [hk] at hk'
  cases hk'
  exact h
/-- e.f -/
def rXf (K : PySem.W.Frag) (a : Addr) (d : Option Addr) (cls : Value) (f : Str) (te : TE2) : TE2 := fun δ μ q w => te δ μ (fun x μ1 => match x with
  | .exn a' d' _ ns es => (a' = a ∧ d' = d) ∧ (∃ C, cls = .ref C ∧ ExcC K C ∧ PySem.W.findIn K (.ref C) f = some none) ∧ (match (ns.zip es).lookup f with | some v => q v μ1 | none => False)
  | _ => False) w
theorem e_xf {K : PySem.W.Frag} {a C : Addr} {d : Option Addr} {f : Str} {te : TE2} {δ : S2} {μ : Mu} {q : Q2} {w : W2} : rXf K a d (.ref C) f te δ μ q w = te δ μ (fun x μ1 => match x with
    | .exn a' d' _ ns es => (a' = a ∧ d' = d) ∧ (∃ C', Value.ref C = .ref C' ∧ ExcC K C' ∧ PySem.W.findIn K (.ref C') f = some none) ∧ (match (ns.zip es).lookup f with | some v => q v μ1 | none => False)
    | _ => False) w := id rfl
theorem xf_go {K : PySem.W.Frag} {a C : Addr} {f : Str} {r : Prop} (hC : ExcC K C) (hf : PySem.W.findIn K (.ref C) f = some none) : ((∃ C', Value.ref C = .ref C' ∧ ExcC K C' ∧ PySem.W.findIn K (.ref C') f = some none) ∧ r) = r :=
  propext ⟨fun h => h.2, fun h => ⟨⟨C, rfl, hC, hf⟩, h⟩⟩
theorem lookup_zip {K : PySem.W.Frag} {Z : Addr → Prop} {H : Hp} {f : Str} : ∀ {ns : List Str} {es : List D} {xs : List V} {d : D}, RepL K Z H es xs → (ns.zip es).lookup f = some d → ∃ v, (ns.zip xs).lookup f = some v ∧ Rep K Z H d v
  | [], _, _, _, _, h => by simp at h
  | _ :: _, [], _, _, _, h => by simp at h
  | n :: ns, e :: es, xs, d, r, h => by
    obtain ⟨v, t, rfl, h1, h2⟩ := r
    rw [List.zip_cons_cons, List.lookup_cons] at h ⊢
    split at h
    · rename_i z
      cases h
      exact ⟨v, rfl, h1⟩
    · exact lookup_zip h2 h
theorem de_xf {X : Cx} {W : WX} {a : Addr} {oe : Obj} {d : Option Addr} {cls : Value} {pn : List (Addr × Obj)} {e : Expr} {te : TE2} {f : Str} {pos : Pos} (hz : Zc cls d oe) (hf : ∃ vs, oe.data = .fields vs) (he : DE (X.suite a ((a, oe) :: pn)) W e te)
    (hb : attributeBase e f X.env (eval e X.env) = eval e X.env := by rfl) : DE (X.suite a ((a, oe) :: pn)) W (.Attribute e f pos) (rXf X.K a d cls f te) := by
  refine ⟨fun pins s σ H Q I h => ?_⟩
  by_cases hC : ∃ C, cls = .ref C ∧ ExcC X.K C ∧ PySem.W.findIn X.K (.ref C) f = some none
  · obtain ⟨C, rfl, c1, c2⟩ := hC
    refine (pe_imp (pe_xf (C := C) ⟨c1.hg, c1.hk, c1.hs, c1.hd⟩ c2 hz hf he hb) fun σ H Q ⟨Z, μ, δ, q, w, ok, rs, wk, ht, k⟩ => ?_).run pins s σ H Q I h
    refine ⟨Z, μ, δ, _, w, ok, rs, wk, ht, fun v H1 Z1 dv μ1 ok1 x1 r1 h1 => ?_⟩
    split at h1
    · rename_i a' d' cls' ns es
      obtain ⟨⟨rfl, rfl⟩, _, h1⟩ := h1
      split at h1
      · rename_i y ey
        obtain ⟨rfl, hd⟩ := r1
        rcases hd with ⟨_, e2⟩ | ⟨dx, xs, e1, e2, r2⟩
        · subst e2; simp at ey
        · obtain ⟨v, ev, rv⟩ := lookup_zip r2 ey
          exact ⟨rfl, rfl, dx, _, v, e1, e2, ev, k v H1 Z1 y μ1 ok1 x1 rv h1⟩
      · exact h1.elim
    · exact h1.elim
  · obtain ⟨Z, μ, δ, q, w, ok, rs, wk, ht, k⟩ := h
    refine attr_of hb (thn (he.run pins s σ H (fun _ _ => False) I ⟨Z, μ, δ, _, w, ok, rs, wk, ht, fun v H1 Z1 dv μ1 ok1 x1 r1 h1 => ?_⟩) fun u s1 hh => ?_)
    · split at h1
      · exact (hC h1.2.1).elim
      · exact h1.elim
    · obtain ⟨v, H', I', r, q⟩ := hh
      exact q.elim
end D2

set_option Elab.async false
set_option linter.all false
set_option maxRecDepth 100000
set_option maxHeartbeats 2000000
namespace D2
open PySem PySem.Spec PyProof.Rows L2
/-! ### the rule for a def with what the head tells -/
section
variable {P : Program} {w : World} {K : PySem.W.Frag} {mg : Str → Option Value} {base : Heap}
theorem takes_fn {N : List Str} {qual : Str} {scope : Scope} {f : Addr} {cdv : Value} {A : Around} {outer : List Env} {s : Shared} {H : Hp} {E : XK} : Takes (cxOf (L2.CX P w) P w K mg base N qual scope f cdv A outer s H E) (WF E) := takes_of rfl rfl rfl rfl
theorem fnD {x qual : Str} {params : Arguments} {body : List Stmt} {scope : Scope} {dvs : List V} {kws : List (Str × V)} {f : Addr} {fd : FuncData} {N ps : List Str} {k : Nat} {sp : Sp2} {t : TS2} (F : FunD K x qual params body scope dvs kws f fd) (S : FnScope N ps scope)
    (len : ∀ ds μ q e, sp ds μ q e → ds.length = ps.length)
    (hb : ∀ (cdv : Value) (A : Around) (outer : List Env) (s : Shared) (H : Hp) (E : XK), Room k (A.deeper (envOfC qual scope s.heap.objs.size f cdv)) →
      DSs (cxOf (L2.CX P w) P w K mg base N qual scope f cdv A outer s H E) (WF E) body t)
    (hr : ∀ ds μ q e, sp ds μ q e → t { nx := fun _ μ => q .non μ, rt := q, ex := fun c fs _ μ => e c fs μ } (start2 N ds) μ) :
    FnOk P w K mg base (L2.CX P w) (k + 1) f fd ps (liftSp K sp) := by
  refine F.ok S (fun vs H Q E ⟨Z, μ, ds, q, e, ok, r, h, _⟩ => by rw [← r.length]; exact len _ _ _ _ h) (fun cdv A outer s H vs Q E hroom ⟨Z, μ, ds, q, e, ok, r, h, kq, ke⟩ => ⟨_, hb cdv A outer s H E hroom, Z, μ, start2 N ds, _, ok, ?_, ?_, hr ds μ q e h, ?_, kq⟩)
  · unfold start2 L2.start
    rw [r.length]
    exact repS_start _ r
  · exact fun cls d σ H' Z' fs δ' μ' ok' x' _ xr h => ke cls d H' Z' fs μ' ok' x' xr h
  · exact fun σ' H' Z' δ' μ' ok' x' _ => ⟨fun h => kq .non H' Z' .non μ' ok' x' rfl h, fun h => h.elim, fun h => h.elim⟩
theorem fnD_mk {x : Str} {params : Arguments} {body : List Stmt} {scope : Scope} {f : Addr} {fd : FuncData} {ps : List Str} {k : Nat} {sp : Sp2} (F : FunD K x x params body scope [] [] f fd) (hm : mg x = some (.ref f)) (b : Binds K fd ps [])
    (h : FnOk P w K mg base (L2.CX P w) k f fd ps (liftSp K sp)) : Fn2 P w K mg base k x ps sp := ⟨f, fd, hm, h, F.kp, b⟩
end
theorem Room.eqs {k : Nat} {A : Around} (r : Room k A) : A.units + 64 < cLine := by have := r.un; omega
/-! ### more values -/
def negD : D → Mu → Q2 → Prop := fun x μ q => match x with | .int i => q (.int (-i)) μ | _ => False
def rNeg (t : TE2) : TE2 := fun δ μ q w => t δ μ (fun x μ1 => negD x μ1 q) w
section
variable {X : Cx} {W : WX} {pos : Pos} {e : Expr} {te : TE2} {x : Str}
theorem de_neg (he : DE X W e te) : DE X W (.UnaryOp .USub e pos) (rNeg te) := pe_imp (pe_un un_neg he) fun σ H Q ⟨Z, μ, δ, q, w, ok, rs, wk, ht, k⟩ => ⟨Z, μ, δ, _, w, ok, rs, wk, ht, fun v H1 Z1 d μ1 ok1 x1 r1 h => by
  unfold negD at h
  split at h
  · cases r1
    exact ⟨_, rfl, k _ H1 Z1 (.int _) μ1 ok1 x1 rfl h⟩
  · exact h.elim⟩
/-- a class of the text as a value -/
theorem d_cls {C : Addr} (hm : X.mg x = some (.ref C)) (hg : Gl X x) (hd : (x == ("__debug__" : Str)) = false := by decide) : DE X W (.Name x pos) (rCon (.opq (.ref C))) := de_con (v := .ref C) (pe_glob hg hm rfl hd) fun _ _ => rfl
/-- a built-in class that is no BT as a value -/
theorem d_tyO {n : String} (hg : Gl X x) (hm : X.mg x = none) (hv : bootBuiltins x = some (.type n)) (hn : x ≠ "__name__" := by decide) (hd : (x == ("__debug__" : Str)) = false := by decide) : DE X W (.Name x pos) (rCon (.opq (.ty n))) :=
  de_con (v := .ty n) (pe_bltn hg hm hv rfl hn hd) fun _ _ => rfl
end
/-! ### a list is frozen -/
/-- the list in slot i is not changed any more -/
def rFrz (i : Nat) (t : TS2) : TS2 := fun E δ μ => match δ[i]? with
  | some (some (.ref a)) => (match μ a with | some (.ml ds) => t E (δ.set i (some (.lst ds))) (drop1 μ a) | _ => False)
  | _ => False
theorem drop1_le {μ : Mu} {a : Addr} : ∀ b o, drop1 μ a b = some o → μ b = some o := fun b o h => by
  unfold drop1 at h
  split at h
  · cases h
  · exact h
theorem drop1_same {μ : Mu} {a : Addr} : drop1 μ a a = none := if_pos rfl
theorem RepS.frz {K : PySem.W.Frag} {Z : Addr → Prop} {H : Hp} {d : D} {v : V} : ∀ {δ : S2} {σ : L2.St} {i : Nat} , RepS K Z H δ σ → (δ[i]? = some (some d)) → (σ[i]? = some (some v)) → Rep K Z H d v → RepS K Z H (δ.set i (some d)) σ := fun {δ σ i} r h1 h2 r3 => by
  have := r.set i r3
  rwa [show σ.set i (some v) = σ from by
    apply List.ext_getElem?
    intro j
    by_cases hj : i = j
    · subst hj
      rw [List.getElem?_set]
      split
      · split
        · exact h2.symm
        · rename_i z; rw [List.getElem?_eq_none (by omega)] at h2; cases h2
      · rename_i z; exact (z rfl).elim
    · rw [List.getElem?_set_ne hj]] at this
theorem dss_frz {X : Cx} {W : WX} {i : Nat} {b : List Stmt} {t : TS2} (h : DSs X W b t) : DSs X W b (rFrz i t) := pss_imp h fun D σ H ⟨Z, μ, δ, E, ok, rs, wk, ht, k, kr⟩ => by
  unfold rFrz at ht
  split at ht
  · rename_i a e
    split at ht
    · rename_i ds ea
      obtain ⟨ok', x', r'⟩ := ok.freeze ea (drop1_same (μ := μ)) drop1_le
      obtain ⟨v, hv, rv⟩ := rs.get e
      cases (show v = V.ref a from rv)
      have rs' := (rs.ext x' _ _).set i r'
      have es : σ.set i (some (V.ref a)) = σ := by
        apply List.ext_getElem?
        intro j
        by_cases hj : i = j
        · subst hj
          rw [List.getElem?_set]
          split
          · split
            · exact hv.symm
            · rename_i z; rw [List.getElem?_eq_none (by omega)] at hv; cases hv
          · rename_i z; exact (z rfl).elim
        · rw [List.getElem?_set_ne hj]
      rw [es] at rs'
      exact ⟨_, _, _, E, ok', rs', wk.on x', ht, fun σ' H' Z' δ' μ' o e => k σ' H' Z' δ' μ' o (x'.trans e), fun v H' Z' d μ' o e => kr v H' Z' d μ' o (x'.trans e)⟩
    · exact ht.elim
  · exact ht.elim
/-! ### the module's constants -/
section
variable {X : Cx} {W : WX} {pos : Pos} {x : Str}
/-- a text of the module -/
theorem d_gstr {y : Str} {tk : Tok} (l : List Nat) (hm : X.mg x = some (.str y tk)) (hl : y.cps.toList = l) (hg : Gl X x) (hd : (x == ("__debug__" : Str)) = false := by decide) : DE X W (.Name x pos) (rCon (.str l)) :=
  de_con (v := .str y) (pe_glob hg hm ⟨tk, rfl⟩ hd) fun _ _ => by subst hl; show V.str y = V.str _; rw [str_back]
theorem d_gint {i : Int} {tk : Tok} (hm : X.mg x = some (.int i tk)) (hg : Gl X x) (hd : (x == ("__debug__" : Str)) = false := by decide) : DE X W (.Name x pos) (rCon (.int i)) :=
  de_con (v := .int i) (pe_glob hg hm ⟨tk, rfl⟩ hd) fun _ _ => rfl
/-- a tuple of the module, of texts and numbers -/
theorem d_gtup {a : Addr} {vs : List V} {ds : List D} (hm : X.mg x = some (.ref a)) (hs : ∀ H, SqT X.K H a vs) (hr : ∀ Z H, RepL X.K Z H ds vs) (hg : Gl X x) (hd : (x == ("__debug__" : Str)) = false := by decide) : DE X W (.Name x pos) (rCon (.tup ds)) :=
  de_con (v := .ref a) (pe_glob hg hm rfl hd) fun Z H => ⟨a, vs, rfl, hs H, hr Z H⟩
end
/-! ### names of built-ins -/
theorem bt_len : bootBuiltins "len" = some (.builtin "len") := by decide +kernel
theorem bt_int : bootBuiltins "int" = some (.type "int") := by decide +kernel
theorem bt_str : bootBuiltins "str" = some (.type "str") := by decide +kernel
theorem bt_abs : bootBuiltins "abs" = some (.builtin "abs") := by decide +kernel
theorem bt_max : bootBuiltins "max" = some (.builtin "max") := by decide +kernel
theorem bt_min : bootBuiltins "min" = some (.builtin "min") := by decide +kernel
theorem bt_list : bootBuiltins "list" = some (.type "list") := by decide +kernel
theorem bt_tuple : bootBuiltins "tuple" = some (.type "tuple") := by decide +kernel
theorem bt_all : bootBuiltins "all" = some (.builtin "all") := by decide +kernel
theorem bt_any : bootBuiltins "any" = some (.builtin "any") := by decide +kernel
theorem bt_isinstance : bootBuiltins "isinstance" = some (.builtin "isinstance") := by decide +kernel
theorem bt_range : bootBuiltins "range" = some (.type "range") := by decide +kernel
theorem bt_enumerate : bootBuiltins "enumerate" = some (.type "enumerate") := by decide +kernel
theorem bt_zip : bootBuiltins "zip" = some (.type "zip") := by decide +kernel
theorem bt_dict : bootBuiltins "dict" = some (.type "dict") := by decide +kernel
theorem bt_bool : bootBuiltins "bool" = some (.type "bool") := by decide +kernel
theorem bt_ValueError : bootBuiltins "ValueError" = some (.type "ValueError") := by decide +kernel
theorem bt_sorted : bootBuiltins "sorted" = some (.builtin "sorted") := by decide +kernel
theorem bt_reversed : bootBuiltins "reversed" = some (.type "reversed") := by decide +kernel
end D2

set_option Elab.async false
set_option linter.all false
set_option maxRecDepth 100000
set_option maxHeartbeats 2000000
/-! equations by which readings are reckoned -/
namespace D2
open PySem PySem.Spec PyProof.Rows L2
section
variable {δ : S2} {μ : Mu} {q : Q2} {w : W2} {E : Ends2} {nx bk ct : S2 → Mu → Prop} {rt : Q2} {ex : W2} {m : Bool} {i j : Int} {a b : List Nat} {ds es : List D} {d e : D} {r : R2D} {te tf : TE2} {ta : TA2} {tt tu : TT2} {t u : TS2} {n k : Nat} {C : Int → Int → Prop} {g : Int → Int → D} {rc : RCD} {rm : RMD} {sp : Sp2} {wi : TI2} {tg : Tg} {qT : Bool → Mu → Prop} {qA : List D → Mu → Prop} {qO : Option Int → Mu → Prop} {lo hi : Option Int} {tl th : TO2} {qI : List D → (Mu → Prop) → Mu → Prop}
theorem e_var (h : δ[n]? = some (some d)) : rVar n δ μ q w = q d μ := by unfold rVar; rw [h]
theorem e_var0 : rVar 0 (some d :: δ) μ q w = q d μ := id rfl
theorem e_varS {x : Option D} : rVar (n + 1) (x :: δ) μ q w = rVar n δ μ q w := id rfl
theorem e_con : rCon d δ μ q w = q d μ := id rfl
theorem e_nil : rNil δ μ qA w = qA [] μ := id rfl
theorem e_cons : rCons te ta δ μ qA w = te δ μ (fun x μ1 => ta δ μ1 (fun xs μ2 => qA (x :: xs) μ2) w) w := id rfl
theorem e_tup : rTup ta δ μ q w = ta δ μ (fun ds μ1 => q (.tup ds) μ1) w := id rfl
theorem e_lst : rLst m ta δ μ q w = ta δ μ (fun ds μ1 => newL m ds μ1 q) w := id rfl
theorem e_newF : newL false ds μ q = q (.lst ds) μ := id rfl
theorem e_newT : newL true ds μ q = ∀ a, μ a = none → q (.ref a) (put μ a (.ml ds)) := id rfl
theorem e_op : rOp r te tf δ μ q w = te δ μ (fun x μ1 => tf δ μ1 (fun y μ2 => r x y μ2 q) w) w := id rfl
theorem e_test : rTest te δ μ qT w = te δ μ (fun d μ1 => match d with | .bl k => qT k μ1 | _ => False) w := id rfl
theorem e_andT : rAndT tt tu δ μ qT w = tt δ μ (fun c μ1 => if c = true then tu δ μ1 qT w else qT false μ1) w := id rfl
theorem e_orT : rOrT tt tu δ μ qT w = tt δ μ (fun c μ1 => if c = true then qT true μ1 else tu δ μ1 qT w) w := id rfl
theorem e_notT : rNotT tt δ μ qT w = tt δ μ (fun c μ1 => qT (!c) μ1) w := id rfl
theorem e_andV : rAndV te tf δ μ q w = te δ μ (fun d μ1 => match d with | .bl c => (if c = true then tf δ μ1 q w else q (.bl false) μ1) | _ => False) w := id rfl
theorem e_orV : rOrV te tf δ μ q w = te δ μ (fun d μ1 => match d with | .bl c => (if c = true then q (.bl true) μ1 else tf δ μ1 q w) | _ => False) w := id rfl
theorem e_notV : rNotV te δ μ q w = te δ μ (fun d μ1 => match d with | .bl c => q (.bl (!c)) μ1 | _ => False) w := id rfl
theorem e_if : rIf tt te tf δ μ q w = tt δ μ (fun c μ1 => if c = true then te δ μ1 q w else tf δ μ1 q w) w := id rfl
theorem e_add_i : addD m (.int i) (.int j) μ q = q (.int (i + j)) μ := id rfl
theorem e_add_s : addD m (.str a) (.str b) μ q = (a.length + b.length ≤ sizeLine ∧ q (.str (a ++ b)) μ) := id rfl
theorem e_add_t : addD m (.tup ds) (.tup es) μ q = (ds.length + es.length ≤ sizeLine ∧ q (.tup (ds ++ es)) μ) := id rfl
theorem e_add_l : addD m (.lst ds) (.lst es) μ q = (ds.length + es.length ≤ sizeLine ∧ newL m (ds ++ es) μ q) := id rfl
theorem e_add_r {x : Addr} (h : μ x = some (.ml ds)) : addD m (.ref x) (.lst es) μ q = (ds.length + es.length ≤ sizeLine ∧ newL m (ds ++ es) μ q) := by
  show (match lstD μ (.ref x), lstD μ (.lst es) with | some a, some b => a.length + b.length ≤ sizeLine ∧ newL m (a ++ b) μ q | _, _ => False) = _
  have : lstD μ (.ref x) = some ds := by unfold lstD; dsimp only; rw [h]
  rw [this]; rfl
theorem e_int2 : D2.intO C g (.int i) (.int j) μ q = (C i j ∧ q (g i j) μ) := id rfl
theorem e_int0 : intD0 g (.int i) (.int j) μ q = q (g i j) μ := id rfl
theorem e_mul_i : mulD (.int i) (.int j) μ q = (CMul i j ∧ q (.int (i * j)) μ) := id rfl
theorem e_mul_s : mulD (.str a) (.int i) μ q = ((a.length ≤ 4096 ∧ -(2 ^ 63) ≤ i ∧ i ≤ 4096) ∧ q (.str (repS a i)) μ) := id rfl
theorem e_sl : rSl m te tl th δ μ q w = te δ μ (fun x μ1 => tl δ μ1 (fun l μ2 => th δ μ2 (fun h μ3 => slD m x l h μ3 q) w) w) w := id rfl
theorem e_nopart : rNoPart δ μ qO w = qO none μ := id rfl
theorem e_part : rPart te δ μ qO w = te δ μ (fun d μ1 => match d with | .int i => qO (some i) μ1 | _ => False) w := id rfl
theorem e_sl_s : slD m (.str a) lo hi μ q = (a.length ≤ sizeLine ∧ q (.str (cutL a lo hi)) μ) := id rfl
theorem e_sl_t : slD m (.tup ds) lo hi μ q = q (.tup (cutL ds lo hi)) μ := id rfl
theorem e_sl_l : slD m (.lst ds) lo hi μ q = newL m (cutL ds lo hi) μ q := id rfl
theorem e_sl_a : slD m (.arg ds) lo hi μ q = newL m (cutL ds lo hi) μ q := id rfl
theorem e_sl_r {x : Addr} (h : μ x = some (.ml ds)) : slD m (.ref x) lo hi μ q = newL m (cutL ds lo hi) μ q := by
  show (match seqD μ (.ref x) with | some ds => newL m (cutL ds lo hi) μ q | none => False) = _
  have : seqD μ (.ref x) = some ds := by unfold seqD; dsimp only; rw [h]
  rw [this]
theorem e_cb : rCB rc ta δ μ q w = ta δ μ (fun ds μ1 => rc ds μ1 q) w := id rfl
theorem e_call : rCall sp ta δ μ q w = ta δ μ (fun ds μ1 => sp ds μ1 q (fun c fs μ2 => w c fs δ μ2)) w := id rfl
theorem e_call0 : rCall0 sp δ μ q w = sp [] μ q (fun _ _ _ => False) := id rfl
theorem e_len_s : lenC [.str a] μ q = (a.length ≤ sizeLine ∧ q (.int a.length) μ) := id rfl
theorem e_len_t : lenC [.tup ds] μ q = q (.int ds.length) μ := id rfl
theorem e_len_l : lenC [.lst ds] μ q = q (.int ds.length) μ := id rfl
theorem e_len_a : lenC [.arg ds] μ q = q (.int ds.length) μ := id rfl
theorem e_len_r {x : Addr} (h : μ x = some (.ml ds)) : lenC [.ref x] μ q = q (.int ds.length) μ := by
  show (match itmD μ (.ref x) with | some es => q (.int es.length) μ | none => False) = _
  have : itmD μ (.ref x) = some ds := by show seqD μ (.ref x) = _; unfold seqD; dsimp only; rw [h]
  rw [this]
theorem e_intC_i : intC [.int i] μ q = q (.int i) μ := id rfl
theorem e_intC_b {c : Bool} : intC [.bl c] μ q = q (.int (if c then 1 else 0)) μ := id rfl
theorem e_strC : strC [.int i] μ q = (i.natAbs.log2 < 1920 ∧ q (.str (numS i)) μ) := id rfl
theorem e_absC : absC [.int i] μ q = q (.int (if i < 0 then -i else i)) μ := id rfl
theorem e_maxC : maxC [.int i, .int j] μ q = q (.int (if j > i then j else i)) μ := id rfl
theorem e_minC : minC [.int i, .int j] μ q = q (.int (if j < i then j else i)) μ := id rfl
theorem e_listC_l : listC m [.lst ds] μ q = newL m ds μ q := id rfl
theorem e_listC_t : listC m [.tup ds] μ q = newL m ds μ q := id rfl
theorem e_listC_a : listC m [.arg ds] μ q = newL m ds μ q := id rfl
theorem e_tupC_l : tupC [.lst ds] μ q = q (.tup ds) μ := id rfl
theorem e_tupC_t : tupC [.tup ds] μ q = q (.tup ds) μ := id rfl
theorem e_isi_ty {c : BT} (h : tyD μ d = some s) : isiC [d, .bt c] μ q = q (.bl (isB s c)) μ := by unfold isiC; dsimp only; rw [h]
theorem e_isi_non {c : BT} : isiC [.non, .bt c] μ q = q (.bl (isB "NoneType" c)) μ := id rfl
theorem e_isi_str {c : BT} : isiC [.str a, .bt c] μ q = q (.bl (isB "str" c)) μ := id rfl
theorem e_isi_int {c : BT} : isiC [.int i, .bt c] μ q = q (.bl (isB "int" c)) μ := id rfl
theorem e_isi_bl {c : BT} {b' : Bool} : isiC [.bl b', .bt c] μ q = q (.bl (isB "bool" c)) μ := id rfl
theorem e_isi_tup {c : BT} : isiC [.tup ds, .bt c] μ q = q (.bl (isB "tuple" c)) μ := id rfl
theorem e_isi_lst {c : BT} : isiC [.lst ds, .bt c] μ q = q (.bl (isB "list" c)) μ := id rfl
theorem e_eq_s : eqR m (.str a) (.str b) μ q = (True ∧ q (.bl (if m then !decide (a = b) else decide (a = b))) μ) := id rfl
theorem e_eq_i : eqR m (.int i) (.int j) μ q = (True ∧ q (.bl (if m then !decide (i = j) else decide (i = j))) μ) := id rfl
theorem e_eq_b {c c' : Bool} : eqR m (.bl c) (.bl c') μ q = (True ∧ q (.bl (if m then !decide (c = c') else decide (c = c'))) μ) := id rfl
theorem e_eq_ns : eqR m .non (.str b) μ q = (True ∧ q (.bl (if m then !false else false)) μ) := by
  unfold eqR eqOk eqD seeD; simp [toPy, PyData.eqv]
theorem e_eq_sn : eqR m (.str b) .non μ q = (True ∧ q (.bl (if m then !false else false)) μ) := by
  unfold eqR eqOk eqD seeD; simp [toPy, PyData.eqv]
theorem e_eq_t : eqR m (.tup ds) (.tup es) μ q = ((okD 64 (.tup ds) = true ∧ okD 64 (.tup es) = true) ∧ q (.bl (if m then !eqD (.tup ds) (.tup es) else eqD (.tup ds) (.tup es))) μ) := id rfl
theorem e_eq_l : eqR m (.lst ds) (.lst es) μ q = ((okD 64 (.lst ds) = true ∧ okD 64 (.lst es) = true) ∧ q (.bl (if m then !eqD (.lst ds) (.lst es) else eqD (.lst ds) (.lst es))) μ) := id rfl
theorem e_eq_rl {x : Addr} (h : μ x = some (.ml ds)) : eqR m (.ref x) (.lst es) μ q = ((okD 64 (.lst ds) = true ∧ okD 64 (.lst es) = true) ∧ q (.bl (if m then !eqD (.lst ds) (.lst es) else eqD (.lst ds) (.lst es))) μ) := by
  have : seeD μ (.ref x) = .lst ds := by unfold seeD; dsimp only; rw [h]
  unfold eqR; rw [this]; rfl
theorem e_in_s : inD m (.str a) (.str b) μ q = q (.bl (if m then !subS a b else subS a b)) μ := id rfl
theorem e_in_t : inD m d (.tup ds) μ q = ((flatD d = true ∧ ds.all flatD = true) ∧ q (.bl (if m then !inL d ds else inL d ds)) μ) := by cases d <;> rfl
theorem e_in_l : inD m d (.lst ds) μ q = ((flatD d = true ∧ ds.all flatD = true) ∧ q (.bl (if m then !inL d ds else inL d ds)) μ) := by cases d <;> rfl
theorem e_is_b {c c' : Bool} : isD m (.bl c) (.bl c') μ q = q (.bl (if m then !decide (c = c') else decide (c = c'))) μ := id rfl
theorem e_is_nn : isD m .non .non μ q = q (.bl (if m then !true else true)) μ := id rfl
theorem e_is_sn : isD m (.str a) .non μ q = q (.bl (if m then !false else false)) μ := id rfl
theorem e_is_in : isD m (.int i) .non μ q = q (.bl (if m then !false else false)) μ := id rfl
theorem e_is_tn : isD m (.tup ds) .non μ q = q (.bl (if m then !false else false)) μ := id rfl
theorem e_is_ln : isD m (.lst ds) .non μ q = q (.bl (if m then !false else false)) μ := id rfl
theorem e_is_rn {x : Addr} : isD m (.ref x) .non μ q = q (.bl (if m then !false else false)) μ := id rfl
theorem e_is_bn {c : Bool} : isD m (.bl c) .non μ q = q (.bl (if m then !false else false)) μ := id rfl
theorem e_lm : rLM rm te ta δ μ q w = te δ μ (fun x μ1 => isL μ1 x ∧ ta δ μ1 (fun ds μ2 => rm x ds μ2 q) w) w := id rfl
theorem e_lm0 : rLM0 rm te δ μ q w = te δ μ (fun x μ1 => isL μ1 x ∧ rm x [] μ1 q) w := id rfl
theorem e_isL {x : Addr} (h : μ x = some (.ml ds)) : isL μ (.ref x) = True := by unfold isL; dsimp only; rw [h]
theorem e_append {x : Addr} (h : μ x = some (.ml ds)) : appendM (.ref x) [d] μ q = (ds.length < sizeLine ∧ q .non (put μ x (.ml (ds ++ [d])))) := by unfold appendM; dsimp only; rw [h]
theorem e_extend_l {x : Addr} (h : μ x = some (.ml ds)) : extendM (.ref x) [.lst es] μ q = (ds.length + es.length ≤ sizeLine ∧ q .non (put μ x (.ml (ds ++ es)))) := by unfold extendM; dsimp only; rw [h]; rfl
theorem e_pop {x : Addr} (h : μ x = some (.ml ds)) : popM (.ref x) [] μ q = (match ds[ds.length - 1]? with | some d => q d (put μ x (.ml ds.dropLast)) | none => False) := by
  show (match μ x with | some (.ml es) => (match es[es.length - 1]? with | some d => q d (put μ x (.ml es.dropLast)) | none => False) | _ => False) = _
  rw [h]
theorem e_sm : rSM rm te tf δ μ q w = te δ μ (fun x μ1 => match x with | .str a => tf δ μ1 (fun y μ2 => rm (.str a) [y] μ2 q) w | _ => False) w := id rfl
theorem e_join_l : joinM (.str a) [.lst ds] μ q = (match strsD ds with | some ys => (ys.map (·.length)).sum + ys.length * a.length ≤ 16777216 ∧ q (.str (TL.joinL a ys)) μ | none => False) := id rfl
theorem e_join_r {x : Addr} (h : μ x = some (.ml ds)) : joinM (.str a) [.ref x] μ q = (match strsD ds with | some ys => (ys.map (·.length)).sum + ys.length * a.length ≤ 16777216 ∧ q (.str (TL.joinL a ys)) μ | none => False) := by
  show (match itmD μ (.ref x) with | some es => (match strsD es with | some ys => _ | none => False) | none => False) = _
  have : itmD μ (.ref x) = some ds := by show seqD μ (.ref x) = _; unfold seqD; dsimp only; rw [h]
  rw [this]
theorem e_iterL : iterL te δ μ qI w = te δ μ (fun d μ1 => match seqD μ1 d with | some ds => qI ds (stayD μ1 d) μ1 | none => False) w := id rfl
theorem e_iterT : iterT te δ μ qI w = te δ μ (fun d μ1 => match d with | .tup ds => qI ds (fun _ => True) μ1 | _ => False) w := id rfl
theorem e_iterS : iterS te δ μ qI w = te δ μ (fun d μ1 => match d with | .str a => qI (a.map fun c => .str [c]) (fun _ => True) μ1 | _ => False) w := id rfl
theorem e_iterR : iterR ta δ μ qI w = ta δ μ (fun ds μ1 => match ds with | [.int j] => (-(2 ^ 62) ≤ j ∧ j < 2 ^ 62) ∧ qI (intsD j.toNat) (fun _ => True) μ1 | _ => False) w := id rfl
theorem e_seq_l : seqD μ (.lst ds) = some ds := id rfl
theorem e_seq_a : seqD μ (.arg ds) = some ds := id rfl
theorem e_seq_r {x : Addr} (h : μ x = some (.ml ds)) : seqD μ (.ref x) = some ds := by unfold seqD; dsimp only; rw [h]
theorem e_stay_l : stayD μ (.lst ds) = fun _ => True := id rfl
theorem e_stay_a : stayD μ (.arg ds) = fun _ => True := id rfl
theorem e_bind1 : bindT (.nm n) d δ = some (δ.set n (some d)) := id rfl
theorem e_bind2 {n1 n2 : Nat} {d1 d2 : D} : bindT (.tp [n1, n2]) (.tup [d1, d2]) δ = some ((δ.set n1 (some d1)).set n2 (some d2)) := id rfl
theorem e_bind3 {n1 n2 n3 : Nat} {d1 d2 d3 : D} : bindT (.tp [n1, n2, n3]) (.tup [d1, d2, d3]) δ = some (((δ.set n1 (some d1)).set n2 (some d2)).set n3 (some d3)) := id rfl
theorem e_bind4 {n1 n2 n3 n4 : Nat} {d1 d2 d3 d4 : D} : bindT (.tp [n1, n2, n3, n4]) (.tup [d1, d2, d3, d4]) δ = some ((((δ.set n1 (some d1)).set n2 (some d2)).set n3 (some d3)).set n4 (some d4)) := id rfl
theorem e_ix_s : ixD (.str a) (.int i) μ q = (match atI a i with | some c => a.length ≤ sizeLine ∧ q (.str [c]) μ | none => False) := id rfl
theorem e_ix_t : ixD (.tup ds) (.int i) μ q = (match atI ds i with | some d => q d μ | none => False) := id rfl
theorem e_ix_l : ixD (.lst ds) (.int i) μ q = (match atI ds i with | some d => q d μ | none => False) := id rfl
theorem e_ix_a : ixD (.arg ds) (.int i) μ q = (match atI ds i with | some d => q d μ | none => False) := id rfl
theorem e_ix_r {x : Addr} (h : μ x = some (.ml ds)) : ixD (.ref x) (.int i) μ q = (match atI ds i with | some d => q d μ | none => False) := by
  show (match itmD μ (.ref x) with | some ds => (match atI ds i with | some d => q d μ | none => False) | none => False) = _
  have : itmD μ (.ref x) = some ds := by show seqD μ (.ref x) = _; unfold seqD; dsimp only; rw [h]
  rw [this]
theorem e_neg : rNeg te δ μ q w = te δ μ (fun x μ1 => negD x μ1 q) w := id rfl
theorem e_negI : negD (.int i) μ q = q (.int (-i)) μ := id rfl
theorem e_seq : rSeq t u ⟨nx, rt, bk, ct, ex⟩ δ μ = t ⟨fun δ μ => u ⟨nx, rt, bk, ct, ex⟩ δ μ, rt, bk, ct, ex⟩ δ μ := id rfl
theorem e_next : rNext ⟨nx, rt, bk, ct, ex⟩ δ μ = nx δ μ := id rfl
theorem e_break : rBreak ⟨nx, rt, bk, ct, ex⟩ δ μ = bk δ μ := id rfl
theorem e_cont : rCont ⟨nx, rt, bk, ct, ex⟩ δ μ = ct δ μ := id rfl
theorem e_drop : rDrop te ⟨nx, rt, bk, ct, ex⟩ δ μ = te δ μ (fun _ μ1 => nx δ μ1) ex := id rfl
theorem e_ret : rRet te ⟨nx, rt, bk, ct, ex⟩ δ μ = te δ μ rt ex := id rfl
theorem e_retN : rRetN ⟨nx, rt, bk, ct, ex⟩ δ μ = rt .non μ := id rfl
theorem e_ifS : rIfS tt t u ⟨nx, rt, bk, ct, ex⟩ δ μ = tt δ μ (fun b μ1 => if b = true then t ⟨nx, rt, bk, ct, ex⟩ δ μ1 else u ⟨nx, rt, bk, ct, ex⟩ δ μ1) ex := id rfl
theorem e_set : rSet n te ⟨nx, rt, bk, ct, ex⟩ δ μ = te δ μ (fun d μ1 => nx (δ.set n (some d)) μ1) ex := id rfl
theorem e_asg : rAsg tg te ⟨nx, rt, bk, ct, ex⟩ δ μ = te δ μ (fun d μ1 => match bindT tg d δ with | some δ' => nx δ' μ1 | none => False) ex := id rfl
theorem e_raise {c : Value} {ns : List Str} : rRaise c ns ta ⟨nx, rt, bk, ct, ex⟩ δ μ = ta δ μ (fun ds μ1 => ex c (ns.zip ds).reverse δ μ1) ex := id rfl
theorem e_raise0 {c : Value} : rRaise0 c ⟨nx, rt, bk, ct, ex⟩ δ μ = ex c [] δ μ := id rfl
theorem e_for : rFor wi tg t ⟨nx, rt, bk, ct, ex⟩ δ μ = wi δ μ (fun ds g μ1 => ∃ P : Nat → S2 → Mu → Prop, P 0 δ μ1 ∧ (∀ i δ μ, P i δ μ → g μ) ∧
  (∀ i d δ μ, ds[i]? = some d → P i δ μ → match bindT tg d δ with | some δ' => t ⟨P (i + 1), rt, nx, P (i + 1), ex⟩ δ' μ | none => False) ∧ ∀ δ μ, P ds.length δ μ → nx δ μ) ex := id rfl
theorem e_while : rWhile tt t ⟨nx, rt, bk, ct, ex⟩ δ μ = (∃ P : Nat → S2 → Mu → Prop, (∃ m, P m δ μ) ∧ ∀ m δ μ, P m δ μ →
  tt δ μ (fun b μ1 => if b = true then t ⟨fun δ' μ' => ∃ m', m' < m ∧ P m' δ' μ', rt, nx, fun δ' μ' => ∃ m', m' < m ∧ P m' δ' μ', ex⟩ δ μ1 else nx δ μ1) ex) := id rfl
theorem e_try {K : PySem.W.Frag} {c : Value} {ts : Addr → Option Addr → Value → TS2} : rTry K c n t ts ⟨nx, rt, bk, ct, ex⟩ δ μ = t ⟨nx, rt, bk, ct, fun cls fs δ' μ' => ∃ b, PySem.W.exmOne K cls c = some b ∧
  (b = true → ∀ a d, ts a d cls ⟨fun δ2 μ2 => nx (δ2.set n none) μ2, rt, fun δ2 μ2 => bk (δ2.set n none) μ2, fun δ2 μ2 => ct (δ2.set n none) μ2, noW⟩ (δ'.set n (some (.exn a d cls (fs.map (·.1)) (fs.map (·.2))))) μ') ∧
  (b = false → ex cls fs δ' μ')⟩ δ μ := id rfl
theorem e_comp {own : List Nat} : rComp m wi tg own tt te δ μ q w = wi δ μ (fun ds g μ1 => ∃ P : Nat → List D → Mu → Prop, P 0 [] μ1 ∧ (∀ i acc μ, P i acc μ → g μ) ∧
  (∀ i d acc μ, ds[i]? = some d → P i acc μ → match bindT tg d (wipe2 δ own) with
    | some δ' => tt δ' μ (fun b μ2 => if b = true then te δ' μ2 (fun y μ3 => acc.length < sizeLine ∧ P (i + 1) (acc ++ [y]) μ3) noW else P (i + 1) acc μ2) noW
    | none => False) ∧ ∀ acc μ, P ds.length acc μ → newL m acc μ q) w := id rfl
theorem e_yes : rYes δ μ qT w = qT true μ := id rfl
theorem e_wipe0 : wipe2 δ [] = δ := id rfl
theorem e_wipeS {v : Nat} {vs : List Nat} : wipe2 δ (v :: vs) = (wipe2 δ vs).set v none := id rfl
end
end D2

set_option Elab.async false
set_option linter.all false
set_option maxRecDepth 100000
set_option maxHeartbeats 2000000
/-! what the head looks at, and what follows -/
namespace D2
open PySem PySem.Spec PyProof.Rows L2
def oexB (K : PySem.W.Frag) (C : Addr) : Bool := (match K.lookup C with
  | some ⟨.type t, _, .cls cd, ⟨[_, _, _, _, some (.builtin n), _]⟩⟩ => (match cd.mro with
    | .ref C' :: bm => decide (t = "type") && (decide (C' = C) && (decide (n = "ValueError.__new__") && (cd.hasDict && (!cd.hasDel && PySem.HandSPX.refsVE bm))))
    | _ => false)
  | _ => false) && (decide (PySem.W.findIn K (.ref C) "__setattr__" = some (some (.builtin "object.__setattr__"))) && (decide (PySem.W.subIn K (.ref C) (.type "BaseException") = some true) && (decide (PySem.W.typeIn K (.ref C) = some (.type "type")) && PySem.W.keepIn K (.ref C))))
theorem oexB_ok {K : PySem.W.Frag} {C : Addr} (h : oexB K C = true) : OexC K C := by
  obtain ⟨h0, h⟩ := He.ba h
  obtain ⟨h1, h⟩ := He.ba h
  obtain ⟨h2, h⟩ := He.ba h
  obtain ⟨h3, h4⟩ := He.ba h
  refine ⟨?_, of_decide_eq_true h1, of_decide_eq_true h2, of_decide_eq_true h3, h4⟩
  split at h0
  · rename_i t dd cd k0 k1 k2 k3 n k5 e
    split at h0
    · rename_i C' bm hm
      obtain ⟨a1, h0⟩ := He.ba h0
      obtain ⟨a2, h0⟩ := He.ba h0
      obtain ⟨a3, h0⟩ := He.ba h0
      obtain ⟨a4, h0⟩ := He.ba h0
      obtain ⟨a5, a6⟩ := He.ba h0
      obtain ⟨nm, bs, mro, ns, qn, hd, sn, sub, ab, col, del⟩ := cd
      dsimp only at hm a4 a5
      cases of_decide_eq_true a1
      cases of_decide_eq_true a2
      cases of_decide_eq_true a3
      subst hm a4
      cases del with
      | true => simp at a5
      | false => exact ⟨nm, qn, ns, bs, bm, sn, sub, ab, col, dd, k0, k1, k2, k3, k5, e, a6⟩
    · cases h0
  · cases h0
def excB (K : PySem.W.Frag) (C : Addr) : Bool := decide (PySem.W.findIn K (.ref C) "__getattribute__" = some (some (.builtin "BaseException.__getattribute__"))) && (decide (PySem.W.findIn K (.ref C) "__getattr__" = some none) &&
  (decide (PySem.W.subIn K (.ref C) (.type "BaseException") = some true) && (PySem.W.hasDictIn K C && (decide (PySem.W.findIn K (.ref C) "__class__" = some (some (.builtin "object.__class__"))) &&
  (decide (PySem.W.specialIn K (.builtin "object.__class__") "__get__" = some (some (.builtin "getset_descriptor.__get__"))) && (decide (PySem.W.takesIn K (.builtin "object.__class__") = some true) && decide (PySem.W.mroIn K C (.type "object") = some true)))))))
theorem excB_ok {K : PySem.W.Frag} {C : Addr} (h : excB K C = true) : ExcC K C := by
  obtain ⟨h1, h⟩ := He.ba h
  obtain ⟨h2, h⟩ := He.ba h
  obtain ⟨h3, h⟩ := He.ba h
  obtain ⟨h4, h⟩ := He.ba h
  obtain ⟨h5, h⟩ := He.ba h
  obtain ⟨h6, h⟩ := He.ba h
  obtain ⟨h7, h8⟩ := He.ba h
  exact ⟨of_decide_eq_true h1, of_decide_eq_true h2, of_decide_eq_true h3, h4, of_decide_eq_true h5, of_decide_eq_true h6, of_decide_eq_true h7, of_decide_eq_true h8⟩
def viB (K : PySem.W.Frag) (S : Addr) : Bool := decide (PySem.W.specialIn K (.ref S) "__getattribute__" = some (some (.builtin "type.__getattribute__"))) && (PySem.W.readsIn K S (.type "type") &&
  (match PySem.W.findCls K (.ref S) (.type "type") "__init__" with | some (.val (.builtin b)) => decide (b = "ValueError.__init__") | _ => false))
theorem viB_ok {K : PySem.W.Frag} {S : Addr} (h : viB K S = true) : ViC K S := by
  obtain ⟨h1, h⟩ := He.ba h
  obtain ⟨h2, h3⟩ := He.ba h
  refine ⟨of_decide_eq_true h1, h2, ?_⟩
  split at h3
  · rename_i b e
    rw [e, of_decide_eq_true h3]
  · cases h3
/-- all own exceptions: xs by names, base the first of them all -/
def exAll (S : Str) (xs : List Str) (fs : List Str) (K : PySem.W.Frag) : Bool := viB K (He.ga K S) && xs.all fun x => oexB K (He.ga K x) && (excB K (He.ga K x) && (decide (PySem.W.exmOne K (.ref (He.ga K x)) (.ref (He.ga K S)) = some true) && (decide (PySem.W.kitOne K (.ref (He.ga K x)) (.type "ValueError") = some true) &&
  ((fs.all fun f => decide (PySem.W.findIn K (.ref (He.ga K x)) f = some none)) && (xs.all fun y => decide (PySem.W.kitOne K (.ref (He.ga K x)) (.ref (He.ga K y)) = some (decide (x = y))))))))
structure ExAll (S : Str) (xs : List Str) (fs : List Str) (K : PySem.W.Frag) : Prop where
  vi : ViC K (He.ga K S)
  oex : ∀ x ∈ xs, OexC K (He.ga K x)
  exc : ∀ x ∈ xs, ExcC K (He.ga K x)
  exm : ∀ x ∈ xs, PySem.W.exmOne K (.ref (He.ga K x)) (.ref (He.ga K S)) = some true
  kitV : ∀ x ∈ xs, PySem.W.kitOne K (.ref (He.ga K x)) (.type "ValueError") = some true
  no : ∀ x ∈ xs, ∀ f ∈ fs, PySem.W.findIn K (.ref (He.ga K x)) f = some none
  kit : ∀ x ∈ xs, ∀ y ∈ xs, PySem.W.kitOne K (.ref (He.ga K x)) (.ref (He.ga K y)) = some (decide (x = y))
theorem exAll_ok {S : Str} {xs fs : List Str} {K : PySem.W.Frag} (h : exAll S xs fs K = true) : ExAll S xs fs K := by
  obtain ⟨h0, h⟩ := He.ba h
  have h' := List.all_eq_true.mp h
  have f : ∀ x ∈ xs, oexB K (He.ga K x) = true ∧ excB K (He.ga K x) = true ∧ PySem.W.exmOne K (.ref (He.ga K x)) (.ref (He.ga K S)) = some true ∧ PySem.W.kitOne K (.ref (He.ga K x)) (.type "ValueError") = some true ∧ (∀ f ∈ fs, PySem.W.findIn K (.ref (He.ga K x)) f = some none) ∧
      ∀ y ∈ xs, PySem.W.kitOne K (.ref (He.ga K x)) (.ref (He.ga K y)) = some (decide (x = y)) := fun x hx => by
    obtain ⟨a1, a⟩ := He.ba (h' x hx)
    obtain ⟨a2, a⟩ := He.ba a
    obtain ⟨a3, a⟩ := He.ba a
    obtain ⟨a6, a⟩ := He.ba a
    obtain ⟨a4, a5⟩ := He.ba a
    exact ⟨a1, a2, of_decide_eq_true a3, of_decide_eq_true a6, fun f hf => of_decide_eq_true (List.all_eq_true.mp a4 f hf), fun y hy => of_decide_eq_true (List.all_eq_true.mp a5 y hy)⟩
  exact ⟨viB_ok h0, fun x hx => oexB_ok (f x hx).1, fun x hx => excB_ok (f x hx).2.1, fun x hx => (f x hx).2.2.1, fun x hx => (f x hx).2.2.2.1, fun x hx => (f x hx).2.2.2.2.1, fun x hx => (f x hx).2.2.2.2.2⟩
/-! ### a Hook whose K holds the class statics too -/
def frY (n : Nat) (g : Addr → Option Obj) : PySem.W.Frag := He.frT g (PySem.cStatics :: He.asD g n)
def obsY (n : Nat) (fa : List He.Fa) (fn : List He.DefD) (ts : List He.Tab) (ex : PySem.W.Frag → Bool) (g : Addr → Option Obj) : He.AlX := (He.obsT fa fn ts (frY n g), ex (frY n g))
def hookY (n : Nat) (fa : List He.Fa) (fn : List He.DefD) (ts : List He.Tab) (ex : PySem.W.Frag → Bool) : PySem.W.Hook where
  α := He.AlX
  obs := fun s => obsY n fa fn ts ex s.heap.get?
  val := fun w => He.valX fn ts w
  says := fun w h => ∃ K : PySem.W.Frag, K.In h ∧ He.SaysT fa fn ts w K ∧ ex K = true
  of := fun _ _ e => ⟨_, He.frT_in, congrArg (fun z : He.AlX => z.1) e, congrArg (fun z : He.AlX => z.2) e⟩
  keeps := fun _ _ _ ⟨K, hK, c⟩ k => ⟨K, PySem.W.Frag.In.keeps hK k, c⟩
theorem obsY_eq {n : Nat} {fa : List He.Fa} {fn : List He.DefD} {ts : List He.Tab} {ex : PySem.W.Frag → Bool} {g : Addr → Option Obj} {s : Shared} (h : ∀ a, g a = s.heap.get? a) : obsY n fa fn ts ex g = (hookY n fa fn ts ex).obs s := by
  have e : g = s.heap.get? := funext h
  rw [e] <;> rfl
/-! ### the end of a law -/
def CXp (P : Program) : CXT := fun outer H s E e s' => ∃ w, L2.CX P w outer H s E e s'
theorem fnok_any {P : Program} {w : World} {K : PySem.W.Frag} {mg : Str → Option Value} {base : Heap} {k : Nat} {f : Addr} {fd : FuncData} {ps : List Str} {sp : Sp} (F : FnOk P w K mg base (L2.CX P w) k f fd ps sp) : FnOk P w K mg base (CXp P) k f fd ps sp :=
  ⟨F.len, fun A outer s H args us vs Q E hr he hb hv hs => codeAny_mono (F.run A outer s H args us vs Q E hr he hb hv hs) fun r s' hq => by
    cases r with
    | error e => exact ⟨w, hq⟩
    | ok fl => cases fl <;> exact hq⟩
theorem cxp_no {P : Program} (H : Hp) (s : Shared) (e : Value) (s' : Shared) (h : CXp P [] H s (fun _ _ _ => False) e s') : False := by
  obtain ⟨w, _, _, _, _, _, _, _, _, _, _, _, _, z⟩ := h
  exact z
/-- what a law promises -/
def spLaw2 : Sp2 := fun ds μ q _ => ∃ xs : List Int, ds = [.arg (xs.map .int)] ∧ q (.bl true) μ
theorem repL_ints {K : PySem.W.Frag} {Z : Addr → Prop} {H : Hp} : ∀ ns : List Int, RepL K Z H (ns.map .int) (ns.map V.int)
  | [] => rfl
  | n :: ns => ⟨.int n, _, rfl, rfl, repL_ints ns⟩
theorem law_sp {K : PySem.W.Frag} {sp : Sp2} (hsp : ∀ ds μ q e, spLaw2 ds μ q e → sp ds μ q e) (H : Hp) (a : Addr) (ns : List Int) (hO : Only H) (hS : SqL K H a (ns.map V.int)) : liftSp K sp [.ref a] H (fun v _ => v = .bl true) fun _ _ _ => False := by
  refine ⟨fun _ => False, fun _ => none, [.arg (ns.map .int)], fun d _ => d = .bl true, fun _ _ _ => False, ⟨fun _ _ h => (by cases h), fun _ h => h.elim⟩, ⟨.ref a, [], rfl, ⟨a, ns.map V.int, rfl, ?_, repL_ints ns⟩, rfl⟩, hsp _ _ _ _ ⟨ns, rfl, rfl⟩, fun v H' Z' d μ' _ _ r e => ?_, fun _ _ _ _ _ _ _ _ _ h => h⟩
  · rcases hS with (h | h) | h
    · rcases hO a with z | ⟨o, xs, z⟩
      · rw [h] at z; cases z
      · rw [h] at z; cases z
    · exact .inl h
    · exact .inr h
  · subst e; exact r
end D2

set_option Elab.async false
set_option linter.all false
set_option maxRecDepth 100000
set_option maxHeartbeats 2000000
/-! plain helps for the laws -/
namespace D2
open PySem PySem.Spec PyProof.Rows L2
theorem intsD_len {n : Nat} : (intsD n).length = n := by simp [intsD]
theorem intsD_get {n i : Nat} {d : D} (h : (intsD n)[i]? = some d) : d = .int i ∧ i < n := by
  unfold intsD at h
  rw [List.getElem?_map] at h
  cases e : (List.range n)[i]? with
  | none => rw [e] at h; cases h
  | some j =>
    rw [e] at h
    have hi : i < n := by
      have := (List.getElem?_eq_some_iff.mp e).1
      simpa using this
    rw [List.getElem?_range hi] at e
    cases e
    exact ⟨(Option.some.inj h).symm, hi⟩
section
variable {α : Type} {xs : List α} {i : Int}
theorem atI_nn (h0 : 0 ≤ i) (h1 : i < xs.length) : atI xs i = xs[i.toNat]? := by unfold atI ixN; rw [if_pos h0, if_pos h1]; rfl
theorem atI_some (h0 : 0 ≤ i) (h1 : i < xs.length) : ∃ x, atI xs i = some x ∧ xs[i.toNat]? = some x := by
  rw [atI_nn h0 h1]
  have : i.toNat < xs.length := by omega
  exact ⟨_, List.getElem?_eq_getElem this, List.getElem?_eq_getElem this⟩
theorem atI_mem {x : α} (h : atI xs i = some x) : x ∈ xs := by
  unfold atI at h
  obtain ⟨j, _, e⟩ := Option.bind_eq_some_iff.mp h
  exact List.mem_of_getElem? e
theorem atI_neg1 (h : xs ≠ []) : atI xs (-1) = xs.getLast? := by
  have hp := List.length_pos_iff.mpr h
  unfold atI ixN
  rw [if_neg (by omega), if_pos (by omega), List.getLast?_eq_getElem?]
  show xs[((-1 : Int) + xs.length).toNat]? = _
  congr 1; omega
end
theorem okL_app {n : Nat} : ∀ {a b : List D}, okL n (a ++ b) = (okL n a && okL n b)
  | [], b => by simp [okL]
  | d :: a, b => by simp [okL, okL_app (a := a), Bool.and_assoc]
theorem okL_mem {n : Nat} : ∀ {a : List D}, (∀ d ∈ a, okD n d = true) → okL n a = true
  | [], _ => by simp [okL]
  | d :: a, h => by
    simp only [okL, Bool.and_eq_true]
    exact ⟨h d (by simp), okL_mem fun x hx => h x (by simp [hx])⟩
theorem okL_of {n : Nat} : ∀ {a : List D}, okL n a = true → ∀ d ∈ a, okD n d = true
  | [], _, d, hd => by cases hd
  | x :: a, h, d, hd => by
    simp only [okL, Bool.and_eq_true] at h
    rcases List.mem_cons.mp hd with e | e
    · rw [e]; exact h.1
    · exact okL_of h.2 d e
theorem okD_str {n : Nat} {x : List Nat} : okD n (.str x) = x.all (· < 0x110000) := by cases n <;> rfl
mutual
theorem okD_le : ∀ {m n : Nat} (d : D), m ≤ n → okD m d = true → okD n d = true
  | _, _, .non, _, _ => by simp [okD]
  | _, _, .bl _, _, _ => by simp [okD]
  | _, _, .int _, _, _ => by simp [okD]
  | m, n, .str x, _, h => by rw [okD_str] at h ⊢; exact h
  | m + 1, n + 1, .tup ds, l, h => by
    simp only [okD] at h ⊢
    exact okL_le ds (by omega) h
  | m + 1, n + 1, .lst ds, l, h => by
    simp only [okD] at h ⊢
    exact okL_le ds (by omega) h
  | 0, _, .tup ds, _, h => by simp [okD] at h
  | 0, _, .lst ds, _, h => by simp [okD] at h
  | _ + 1, 0, .tup ds, l, h => by omega
  | _ + 1, 0, .lst ds, l, h => by omega
  | 0, _, .opq _, _, h => by simp [okD] at h
  | 0, _, .bt _, _, h => by simp [okD] at h
  | 0, _, .ref _, _, h => by simp [okD] at h
  | 0, _, .arg _, _, h => by simp [okD] at h
  | 0, _, .exn _ _ _ _ _, _, h => by simp [okD] at h
  | _ + 1, _, .opq _, _, h => by simp [okD] at h
  | _ + 1, _, .bt _, _, h => by simp [okD] at h
  | _ + 1, _, .ref _, _, h => by simp [okD] at h
  | _ + 1, _, .arg _, _, h => by simp [okD] at h
  | _ + 1, _, .exn _ _ _ _ _, _, h => by simp [okD] at h
theorem okL_le : ∀ {m n : Nat} (ds : List D), m ≤ n → okL m ds = true → okL n ds = true
  | _, _, [], _, _ => by simp [okL]
  | m, n, d :: ds, l, h => by
    simp only [okL, Bool.and_eq_true] at h ⊢
    exact ⟨okD_le d l h.1, okL_le ds l h.2⟩
end
mutual
theorem eqv_self : ∀ {n : Nat} (d : D), okD n d = true → PyData.eqv (toPy d) (toPy d) = true
  | _, .non, _ => by simp [toPy, PyData.eqv]
  | _, .bl _, _ => by simp [toPy, PyData.eqv]
  | _, .int _, _ => by simp [toPy, PyData.eqv]
  | _, .str _, _ => by simp [toPy, PyData.eqv]
  | n + 1, .tup ds, h => by
    simp only [okD] at h
    simp only [toPy, PyData.eqv]
    exact eqvL_self ds h
  | n + 1, .lst ds, h => by
    simp only [okD] at h
    simp only [toPy, PyData.eqv]
    exact eqvL_self ds h
  | 0, .tup ds, h => by simp [okD] at h
  | 0, .lst ds, h => by simp [okD] at h
  | 0, .opq _, h => by simp [okD] at h
  | 0, .bt _, h => by simp [okD] at h
  | 0, .ref _, h => by simp [okD] at h
  | 0, .arg _, h => by simp [okD] at h
  | 0, .exn _ _ _ _ _, h => by simp [okD] at h
  | _ + 1, .opq _, h => by simp [okD] at h
  | _ + 1, .bt _, h => by simp [okD] at h
  | _ + 1, .ref _, h => by simp [okD] at h
  | _ + 1, .arg _, h => by simp [okD] at h
  | _ + 1, .exn _ _ _ _ _, h => by simp [okD] at h
theorem eqvL_self : ∀ {n : Nat} (ds : List D), okL n ds = true → PyData.eqvAll (toPyL ds) (toPyL ds) = true
  | _, [], _ => by simp [toPyL, PyData.eqvAll]
  | n, d :: ds, h => by
    simp only [okL, Bool.and_eq_true] at h
    simp only [toPyL, PyData.eqvAll, Bool.and_eq_true]
    exact ⟨eqv_self d h.1, eqvL_self ds h.2⟩
end
/-- data are equal to themselves -/
theorem eqD_self {d : D} (h : okD 64 d = true) : eqD d d = true := by rw [eqD_py h h]; exact eqv_self d h
/-- a power of two numbers of the text, taken as a positive number -/
theorem pow_some {i j : Int} (h : CPow i j) (h0 : 0 < i) : ∃ N : Int, 0 < N ∧ rOp (D2.intO CPow fun i j => .int (i ^ j.toNat)) (rCon (.int i)) (rCon (.int j)) = rCon (.int N) := by
  refine ⟨i ^ j.toNat, Int.pow_pos h0, ?_⟩
  funext δ μ q w
  exact propext ⟨fun z => z.2, fun z => ⟨h, z⟩⟩
end D2

set_option Elab.async false
set_option linter.all false
set_option maxRecDepth 100000
set_option maxHeartbeats 4000000
local macro_rules | `(tactic| walk_at "d2") => `(tactic| simp only [D2.start2, List.map_cons, List.map_nil, List.length_cons, List.length_nil, List.replicate, List.cons_append, List.nil_append, List.set_cons_zero, List.set_cons_succ, List.getElem?_cons_zero, List.getElem?_cons_succ, true_and, and_true, Bool.false_eq_true, if_false, if_true, Bool.not_true, Bool.not_false, decide_true, decide_false, D2.e_var, D2.e_var0, D2.e_varS, D2.e_con, D2.e_nil, D2.e_cons, D2.e_tup, D2.e_lst, D2.e_newF, D2.e_newT, D2.e_op, D2.e_test, D2.e_andT, D2.e_orT, D2.e_notT, D2.e_andV, D2.e_orV, D2.e_notV, D2.e_if, D2.e_seq, D2.e_next, D2.e_break, D2.e_cont, D2.e_drop, D2.e_ret, D2.e_retN, D2.e_ifS, D2.e_set, D2.e_asg, D2.e_add_i, D2.e_add_s, D2.e_add_t, D2.e_add_l, D2.e_add_r, D2.e_int2, D2.e_int0, D2.e_mul_i, D2.e_mul_s, D2.e_sl, D2.e_nopart, D2.e_part, D2.e_sl_s, D2.e_sl_t, D2.e_sl_l, D2.e_sl_a, D2.e_sl_r, D2.e_cb, D2.e_call, D2.e_call0, D2.e_len_s, D2.e_len_t, D2.e_len_l, D2.e_len_a, D2.e_len_r, D2.e_intC_i, D2.e_intC_b, D2.e_strC, D2.e_absC, D2.e_maxC, D2.e_minC, D2.e_listC_l, D2.e_listC_t, D2.e_listC_a, D2.e_tupC_l, D2.e_tupC_t, D2.e_isi_ty, D2.e_isi_non, D2.e_isi_str, D2.e_isi_int, D2.e_isi_bl, D2.e_isi_tup, D2.e_isi_lst, D2.e_eq_s, D2.e_eq_i, D2.e_eq_b, D2.e_eq_ns, D2.e_eq_sn, D2.e_eq_t, D2.e_eq_l, D2.e_eq_rl, D2.e_in_s, D2.e_in_t, D2.e_in_l, D2.e_is_b, D2.e_is_nn, D2.e_is_sn, D2.e_is_in, D2.e_is_tn, D2.e_is_ln, D2.e_is_rn, D2.e_is_bn, D2.e_lm, D2.e_lm0, D2.e_isL, D2.e_append, D2.e_extend_l, D2.e_pop, D2.e_sm, D2.e_join_l, D2.e_join_r, D2.e_iterL, D2.e_iterT, D2.e_iterS, D2.e_iterR, D2.e_seq_l, D2.e_seq_a, D2.e_seq_r, D2.e_stay_l, D2.e_stay_a, D2.e_bind1, D2.e_bind2, D2.e_bind3, D2.e_bind4, D2.e_ix_s, D2.e_ix_t, D2.e_ix_l, D2.e_ix_a, D2.e_ix_r, D2.e_neg, D2.e_negI, D2.e_raise, D2.e_raise0, D2.e_for, D2.e_xf])

namespace K18
open PySem PySem.Spec PyProof.Rows L2 D2
def top (i : Nat) : Stmt := PySem.Challenge.pw_sealpress_k18_refusals_apart.main.body.getD i (.Pass ⟨0, 0, 0, 0⟩)
structure Gs (K : PySem.W.Frag) (mg : Str → Option Value) : Prop where
  b_ValueError : mg "ValueError" = none
  b_abs : mg "abs" = none
  b_isinstance : mg "isinstance" = none
  b_len : mg "len" = none
  b_range : mg "range" = none
  c_SealError : mg "SealError" = some (.ref (He.ga K "SealError"))
  c_NoSign : mg "NoSign" = some (.ref (He.ga K "NoSign"))
  c_NoCode : mg "NoCode" = some (.ref (He.ga K "NoCode"))
  c_Unread : mg "Unread" = some (.ref (He.ga K "Unread"))
  c_Unended : mg "Unended" = some (.ref (He.ga K "Unended"))
  c_NoPage : mg "NoPage" = some (.ref (He.ga K "NoPage"))
  c_NoName : mg "NoName" = some (.ref (He.ga K "NoName"))
  c_NoSheet : mg "NoSheet" = some (.ref (He.ga K "NoSheet"))
  c_Twice : mg "Twice" = some (.ref (He.ga K "Twice"))
  c_TooMany : mg "TooMany" = some (.ref (He.ga K "TooMany"))
  c_Unknown : mg "Unknown" = some (.ref (He.ga K "Unknown"))
  c_RingOver : mg "RingOver" = some (.ref (He.ga K "RingOver"))
  c_Ringed : mg "Ringed" = some (.ref (He.ga K "Ringed"))
  c_NoElder : mg "NoElder" = some (.ref (He.ga K "NoElder"))
  c_Astray : mg "Astray" = some (.ref (He.ga K "Astray"))
  c_NoPlace : mg "NoPlace" = some (.ref (He.ga K "NoPlace"))
  c_Unlike : mg "Unlike" = some (.ref (He.ga K "Unlike"))
  c_LeftOpen : mg "LeftOpen" = some (.ref (He.ga K "LeftOpen"))
  c_NoValue : mg "NoValue" = some (.ref (He.ga K "NoValue"))
  c_NoKind : mg "NoKind" = some (.ref (He.ga K "NoKind"))
  c_NoRow : mg "NoRow" = some (.ref (He.ga K "NoRow"))
structure Xs (P : Program) (w : World) (K : PySem.W.Frag) (mg : Str → Option Value) (base : Heap) : Prop where
  m_all : True
  m_SealError : Mk0 K mg "SealError" (He.ga K "SealError")
  m_NoSign : Mk2 P w K mg base 1 "NoSign" (He.ga K "NoSign") ["at"]
  m_NoCode : Mk2 P w K mg base 1 "NoCode" (He.ga K "NoCode") ["at"]
  m_Unread : Mk2 P w K mg base 1 "Unread" (He.ga K "Unread") ["at"]
  m_Unended : Mk0 K mg "Unended" (He.ga K "Unended")
  m_NoPage : Mk2 P w K mg base 1 "NoPage" (He.ga K "NoPage") ["at"]
  m_NoName : Mk2 P w K mg base 1 "NoName" (He.ga K "NoName") ["name"]
  m_NoSheet : Mk2 P w K mg base 1 "NoSheet" (He.ga K "NoSheet") ["at"]
  m_Twice : Mk2 P w K mg base 1 "Twice" (He.ga K "Twice") ["name"]
  m_TooMany : Mk0 K mg "TooMany" (He.ga K "TooMany")
  m_Unknown : Mk2 P w K mg base 1 "Unknown" (He.ga K "Unknown") ["name"]
  m_RingOver : Mk2 P w K mg base 1 "RingOver" (He.ga K "RingOver") ["ring"]
  m_Ringed : Mk2 P w K mg base 1 "Ringed" (He.ga K "Ringed") ["ring"]
  m_NoElder : Mk2 P w K mg base 1 "NoElder" (He.ga K "NoElder") ["name"]
  m_Astray : Mk2 P w K mg base 1 "Astray" (He.ga K "Astray") ["place", "at"]
  m_NoPlace : Mk2 P w K mg base 1 "NoPlace" (He.ga K "NoPlace") ["name", "place"]
  m_Unlike : Mk2 P w K mg base 1 "Unlike" (He.ga K "Unlike") ["what", "one", "other"]
  m_LeftOpen : Mk2 P w K mg base 1 "LeftOpen" (He.ga K "LeftOpen") ["place"]
  m_NoValue : Mk2 P w K mg base 1 "NoValue" (He.ga K "NoValue") ["name"]
  m_NoKind : Mk2 P w K mg base 1 "NoKind" (He.ga K "NoKind") ["name"]
  m_NoRow : Mk0 K mg "NoRow" (He.ga K "NoRow")
section
variable {P : Program} {w : World} {K : PySem.W.Frag} {mg : Str → Option Value} {base : Heap}
abbrev s_iNoSign : Stmt := inClass (top 2) 0
theorem sc_iNoSign : FnScope ["self", "at"] ["self", "at"] (defScope s_iNoSign) := ⟨rfl, rfl, rfl, by decide +kernel, rfl, by decide +kernel, by decide +kernel⟩
theorem in_NoSign {f : Addr} {fd : FuncData} (F : FunD K "__init__" "NoSign.__init__" (defArgs s_iNoSign) (defBody s_iNoSign) (defScope s_iNoSign) [] [] f fd) (G : Gs K mg) (V : ViC K (He.ga K "SealError")) : FnOk P w K mg base (L2.CX P w) 1 f fd ["self", "at"] (spI K ["at"]) :=
  ini2 (st0 := (defBody s_iNoSign).getD 0 default) (rest := (defBody s_iNoSign).drop 1) F sc_iNoSign rfl rfl (fun cdv A outer s H E => ⟨_, ps_expr (pe_viown V rfl G.c_SealError (pa_cons (pv 0) (pa_cons pe_str pa_nil)))⟩) (fun cdv A outer s H E => (.cons (pv 0) (pv 1) rfl .nil))
def df_iNoSign : He.DefD := ⟨("NoSign", some "__init__"), "__init__", "NoSign.__init__", defArgs s_iNoSign, defBody s_iNoSign, defScope s_iNoSign, [], []⟩
abbrev s_iNoCode : Stmt := inClass (top 3) 0
theorem sc_iNoCode : FnScope ["self", "at"] ["self", "at"] (defScope s_iNoCode) := ⟨rfl, rfl, rfl, by decide +kernel, rfl, by decide +kernel, by decide +kernel⟩
theorem in_NoCode {f : Addr} {fd : FuncData} (F : FunD K "__init__" "NoCode.__init__" (defArgs s_iNoCode) (defBody s_iNoCode) (defScope s_iNoCode) [] [] f fd) (G : Gs K mg) (V : ViC K (He.ga K "SealError")) : FnOk P w K mg base (L2.CX P w) 1 f fd ["self", "at"] (spI K ["at"]) :=
  ini2 (st0 := (defBody s_iNoCode).getD 0 default) (rest := (defBody s_iNoCode).drop 1) F sc_iNoCode rfl rfl (fun cdv A outer s H E => ⟨_, ps_expr (pe_viown V rfl G.c_SealError (pa_cons (pv 0) (pa_cons pe_str pa_nil)))⟩) (fun cdv A outer s H E => (.cons (pv 0) (pv 1) rfl .nil))
def df_iNoCode : He.DefD := ⟨("NoCode", some "__init__"), "__init__", "NoCode.__init__", defArgs s_iNoCode, defBody s_iNoCode, defScope s_iNoCode, [], []⟩
abbrev s_iUnread : Stmt := inClass (top 4) 0
theorem sc_iUnread : FnScope ["self", "at"] ["self", "at"] (defScope s_iUnread) := ⟨rfl, rfl, rfl, by decide +kernel, rfl, by decide +kernel, by decide +kernel⟩
theorem in_Unread {f : Addr} {fd : FuncData} (F : FunD K "__init__" "Unread.__init__" (defArgs s_iUnread) (defBody s_iUnread) (defScope s_iUnread) [] [] f fd) (G : Gs K mg) (V : ViC K (He.ga K "SealError")) : FnOk P w K mg base (L2.CX P w) 1 f fd ["self", "at"] (spI K ["at"]) :=
  ini2 (st0 := (defBody s_iUnread).getD 0 default) (rest := (defBody s_iUnread).drop 1) F sc_iUnread rfl rfl (fun cdv A outer s H E => ⟨_, ps_expr (pe_viown V rfl G.c_SealError (pa_cons (pv 0) (pa_cons pe_str pa_nil)))⟩) (fun cdv A outer s H E => (.cons (pv 0) (pv 1) rfl .nil))
def df_iUnread : He.DefD := ⟨("Unread", some "__init__"), "__init__", "Unread.__init__", defArgs s_iUnread, defBody s_iUnread, defScope s_iUnread, [], []⟩
abbrev s_iNoPage : Stmt := inClass (top 6) 0
theorem sc_iNoPage : FnScope ["self", "at"] ["self", "at"] (defScope s_iNoPage) := ⟨rfl, rfl, rfl, by decide +kernel, rfl, by decide +kernel, by decide +kernel⟩
theorem in_NoPage {f : Addr} {fd : FuncData} (F : FunD K "__init__" "NoPage.__init__" (defArgs s_iNoPage) (defBody s_iNoPage) (defScope s_iNoPage) [] [] f fd) (G : Gs K mg) (V : ViC K (He.ga K "SealError")) : FnOk P w K mg base (L2.CX P w) 1 f fd ["self", "at"] (spI K ["at"]) :=
  ini2 (st0 := (defBody s_iNoPage).getD 0 default) (rest := (defBody s_iNoPage).drop 1) F sc_iNoPage rfl rfl (fun cdv A outer s H E => ⟨_, ps_expr (pe_viown V rfl G.c_SealError (pa_cons (pv 0) (pa_cons pe_str pa_nil)))⟩) (fun cdv A outer s H E => (.cons (pv 0) (pv 1) rfl .nil))
def df_iNoPage : He.DefD := ⟨("NoPage", some "__init__"), "__init__", "NoPage.__init__", defArgs s_iNoPage, defBody s_iNoPage, defScope s_iNoPage, [], []⟩
abbrev s_iNoName : Stmt := inClass (top 7) 0
theorem sc_iNoName : FnScope ["self", "name"] ["self", "name"] (defScope s_iNoName) := ⟨rfl, rfl, rfl, by decide +kernel, rfl, by decide +kernel, by decide +kernel⟩
theorem in_NoName {f : Addr} {fd : FuncData} (F : FunD K "__init__" "NoName.__init__" (defArgs s_iNoName) (defBody s_iNoName) (defScope s_iNoName) [] [] f fd) (G : Gs K mg) (V : ViC K (He.ga K "SealError")) : FnOk P w K mg base (L2.CX P w) 1 f fd ["self", "name"] (spI K ["name"]) :=
  ini2 (st0 := (defBody s_iNoName).getD 0 default) (rest := (defBody s_iNoName).drop 1) F sc_iNoName rfl rfl (fun cdv A outer s H E => ⟨_, ps_expr (pe_viown V rfl G.c_SealError (pa_cons (pv 0) (pa_cons pe_str pa_nil)))⟩) (fun cdv A outer s H E => (.cons (pv 0) (pv 1) rfl .nil))
def df_iNoName : He.DefD := ⟨("NoName", some "__init__"), "__init__", "NoName.__init__", defArgs s_iNoName, defBody s_iNoName, defScope s_iNoName, [], []⟩
abbrev s_iNoSheet : Stmt := inClass (top 8) 0
theorem sc_iNoSheet : FnScope ["self", "at"] ["self", "at"] (defScope s_iNoSheet) := ⟨rfl, rfl, rfl, by decide +kernel, rfl, by decide +kernel, by decide +kernel⟩
theorem in_NoSheet {f : Addr} {fd : FuncData} (F : FunD K "__init__" "NoSheet.__init__" (defArgs s_iNoSheet) (defBody s_iNoSheet) (defScope s_iNoSheet) [] [] f fd) (G : Gs K mg) (V : ViC K (He.ga K "SealError")) : FnOk P w K mg base (L2.CX P w) 1 f fd ["self", "at"] (spI K ["at"]) :=
  ini2 (st0 := (defBody s_iNoSheet).getD 0 default) (rest := (defBody s_iNoSheet).drop 1) F sc_iNoSheet rfl rfl (fun cdv A outer s H E => ⟨_, ps_expr (pe_viown V rfl G.c_SealError (pa_cons (pv 0) (pa_cons pe_str pa_nil)))⟩) (fun cdv A outer s H E => (.cons (pv 0) (pv 1) rfl .nil))
def df_iNoSheet : He.DefD := ⟨("NoSheet", some "__init__"), "__init__", "NoSheet.__init__", defArgs s_iNoSheet, defBody s_iNoSheet, defScope s_iNoSheet, [], []⟩
abbrev s_iTwice : Stmt := inClass (top 9) 0
theorem sc_iTwice : FnScope ["self", "name"] ["self", "name"] (defScope s_iTwice) := ⟨rfl, rfl, rfl, by decide +kernel, rfl, by decide +kernel, by decide +kernel⟩
theorem in_Twice {f : Addr} {fd : FuncData} (F : FunD K "__init__" "Twice.__init__" (defArgs s_iTwice) (defBody s_iTwice) (defScope s_iTwice) [] [] f fd) (G : Gs K mg) (V : ViC K (He.ga K "SealError")) : FnOk P w K mg base (L2.CX P w) 1 f fd ["self", "name"] (spI K ["name"]) :=
  ini2 (st0 := (defBody s_iTwice).getD 0 default) (rest := (defBody s_iTwice).drop 1) F sc_iTwice rfl rfl (fun cdv A outer s H E => ⟨_, ps_expr (pe_viown V rfl G.c_SealError (pa_cons (pv 0) (pa_cons pe_str pa_nil)))⟩) (fun cdv A outer s H E => (.cons (pv 0) (pv 1) rfl .nil))
def df_iTwice : He.DefD := ⟨("Twice", some "__init__"), "__init__", "Twice.__init__", defArgs s_iTwice, defBody s_iTwice, defScope s_iTwice, [], []⟩
abbrev s_iUnknown : Stmt := inClass (top 11) 0
theorem sc_iUnknown : FnScope ["self", "name"] ["self", "name"] (defScope s_iUnknown) := ⟨rfl, rfl, rfl, by decide +kernel, rfl, by decide +kernel, by decide +kernel⟩
theorem in_Unknown {f : Addr} {fd : FuncData} (F : FunD K "__init__" "Unknown.__init__" (defArgs s_iUnknown) (defBody s_iUnknown) (defScope s_iUnknown) [] [] f fd) (G : Gs K mg) (V : ViC K (He.ga K "SealError")) : FnOk P w K mg base (L2.CX P w) 1 f fd ["self", "name"] (spI K ["name"]) :=
  ini2 (st0 := (defBody s_iUnknown).getD 0 default) (rest := (defBody s_iUnknown).drop 1) F sc_iUnknown rfl rfl (fun cdv A outer s H E => ⟨_, ps_expr (pe_viown V rfl G.c_SealError (pa_cons (pv 0) (pa_cons pe_str pa_nil)))⟩) (fun cdv A outer s H E => (.cons (pv 0) (pv 1) rfl .nil))
def df_iUnknown : He.DefD := ⟨("Unknown", some "__init__"), "__init__", "Unknown.__init__", defArgs s_iUnknown, defBody s_iUnknown, defScope s_iUnknown, [], []⟩
abbrev s_iRingOver : Stmt := inClass (top 12) 0
theorem sc_iRingOver : FnScope ["self", "ring"] ["self", "ring"] (defScope s_iRingOver) := ⟨rfl, rfl, rfl, by decide +kernel, rfl, by decide +kernel, by decide +kernel⟩
theorem in_RingOver {f : Addr} {fd : FuncData} (F : FunD K "__init__" "RingOver.__init__" (defArgs s_iRingOver) (defBody s_iRingOver) (defScope s_iRingOver) [] [] f fd) (G : Gs K mg) (V : ViC K (He.ga K "SealError")) : FnOk P w K mg base (L2.CX P w) 1 f fd ["self", "ring"] (spI K ["ring"]) :=
  ini2 (st0 := (defBody s_iRingOver).getD 0 default) (rest := (defBody s_iRingOver).drop 1) F sc_iRingOver rfl rfl (fun cdv A outer s H E => ⟨_, ps_expr (pe_viown V rfl G.c_SealError (pa_cons (pv 0) (pa_cons pe_str pa_nil)))⟩) (fun cdv A outer s H E => (.cons (pv 0) (pv 1) rfl .nil))
def df_iRingOver : He.DefD := ⟨("RingOver", some "__init__"), "__init__", "RingOver.__init__", defArgs s_iRingOver, defBody s_iRingOver, defScope s_iRingOver, [], []⟩
abbrev s_iRinged : Stmt := inClass (top 13) 0
theorem sc_iRinged : FnScope ["self", "ring"] ["self", "ring"] (defScope s_iRinged) := ⟨rfl, rfl, rfl, by decide +kernel, rfl, by decide +kernel, by decide +kernel⟩
theorem in_Ringed {f : Addr} {fd : FuncData} (F : FunD K "__init__" "Ringed.__init__" (defArgs s_iRinged) (defBody s_iRinged) (defScope s_iRinged) [] [] f fd) (G : Gs K mg) (V : ViC K (He.ga K "SealError")) : FnOk P w K mg base (L2.CX P w) 1 f fd ["self", "ring"] (spI K ["ring"]) :=
  ini2 (st0 := (defBody s_iRinged).getD 0 default) (rest := (defBody s_iRinged).drop 1) F sc_iRinged rfl rfl (fun cdv A outer s H E => ⟨_, ps_expr (pe_viown V rfl G.c_SealError (pa_cons (pv 0) (pa_cons pe_str pa_nil)))⟩) (fun cdv A outer s H E => (.cons (pv 0) (pv 1) rfl .nil))
def df_iRinged : He.DefD := ⟨("Ringed", some "__init__"), "__init__", "Ringed.__init__", defArgs s_iRinged, defBody s_iRinged, defScope s_iRinged, [], []⟩
abbrev s_iNoElder : Stmt := inClass (top 14) 0
theorem sc_iNoElder : FnScope ["self", "name"] ["self", "name"] (defScope s_iNoElder) := ⟨rfl, rfl, rfl, by decide +kernel, rfl, by decide +kernel, by decide +kernel⟩
theorem in_NoElder {f : Addr} {fd : FuncData} (F : FunD K "__init__" "NoElder.__init__" (defArgs s_iNoElder) (defBody s_iNoElder) (defScope s_iNoElder) [] [] f fd) (G : Gs K mg) (V : ViC K (He.ga K "SealError")) : FnOk P w K mg base (L2.CX P w) 1 f fd ["self", "name"] (spI K ["name"]) :=
  ini2 (st0 := (defBody s_iNoElder).getD 0 default) (rest := (defBody s_iNoElder).drop 1) F sc_iNoElder rfl rfl (fun cdv A outer s H E => ⟨_, ps_expr (pe_viown V rfl G.c_SealError (pa_cons (pv 0) (pa_cons pe_str pa_nil)))⟩) (fun cdv A outer s H E => (.cons (pv 0) (pv 1) rfl .nil))
def df_iNoElder : He.DefD := ⟨("NoElder", some "__init__"), "__init__", "NoElder.__init__", defArgs s_iNoElder, defBody s_iNoElder, defScope s_iNoElder, [], []⟩
abbrev s_iAstray : Stmt := inClass (top 15) 0
theorem sc_iAstray : FnScope ["self", "place", "at"] ["self", "place", "at"] (defScope s_iAstray) := ⟨rfl, rfl, rfl, by decide +kernel, rfl, by decide +kernel, by decide +kernel⟩
theorem in_Astray {f : Addr} {fd : FuncData} (F : FunD K "__init__" "Astray.__init__" (defArgs s_iAstray) (defBody s_iAstray) (defScope s_iAstray) [] [] f fd) (G : Gs K mg) (V : ViC K (He.ga K "SealError")) : FnOk P w K mg base (L2.CX P w) 1 f fd ["self", "place", "at"] (spI K ["place", "at"]) :=
  ini2 (st0 := (defBody s_iAstray).getD 0 default) (rest := (defBody s_iAstray).drop 1) F sc_iAstray rfl rfl (fun cdv A outer s H E => ⟨_, ps_expr (pe_viown V rfl G.c_SealError (pa_cons (pv 0) (pa_cons pe_str pa_nil)))⟩) (fun cdv A outer s H E => (.cons (pv 0) (pv 1) rfl (.cons (pv 0) (pv 2) rfl .nil)))
def df_iAstray : He.DefD := ⟨("Astray", some "__init__"), "__init__", "Astray.__init__", defArgs s_iAstray, defBody s_iAstray, defScope s_iAstray, [], []⟩
abbrev s_iNoPlace : Stmt := inClass (top 16) 0
theorem sc_iNoPlace : FnScope ["self", "name", "place"] ["self", "name", "place"] (defScope s_iNoPlace) := ⟨rfl, rfl, rfl, by decide +kernel, rfl, by decide +kernel, by decide +kernel⟩
theorem in_NoPlace {f : Addr} {fd : FuncData} (F : FunD K "__init__" "NoPlace.__init__" (defArgs s_iNoPlace) (defBody s_iNoPlace) (defScope s_iNoPlace) [] [] f fd) (G : Gs K mg) (V : ViC K (He.ga K "SealError")) : FnOk P w K mg base (L2.CX P w) 1 f fd ["self", "name", "place"] (spI K ["name", "place"]) :=
  ini2 (st0 := (defBody s_iNoPlace).getD 0 default) (rest := (defBody s_iNoPlace).drop 1) F sc_iNoPlace rfl rfl (fun cdv A outer s H E => ⟨_, ps_expr (pe_viown V rfl G.c_SealError (pa_cons (pv 0) (pa_cons pe_str pa_nil)))⟩) (fun cdv A outer s H E => (.cons (pv 0) (pv 1) rfl (.cons (pv 0) (pv 2) rfl .nil)))
def df_iNoPlace : He.DefD := ⟨("NoPlace", some "__init__"), "__init__", "NoPlace.__init__", defArgs s_iNoPlace, defBody s_iNoPlace, defScope s_iNoPlace, [], []⟩
abbrev s_iUnlike : Stmt := inClass (top 17) 0
theorem sc_iUnlike : FnScope ["self", "what", "one", "other"] ["self", "what", "one", "other"] (defScope s_iUnlike) := ⟨rfl, rfl, rfl, by decide +kernel, rfl, by decide +kernel, by decide +kernel⟩
theorem in_Unlike {f : Addr} {fd : FuncData} (F : FunD K "__init__" "Unlike.__init__" (defArgs s_iUnlike) (defBody s_iUnlike) (defScope s_iUnlike) [] [] f fd) (G : Gs K mg) (V : ViC K (He.ga K "SealError")) : FnOk P w K mg base (L2.CX P w) 1 f fd ["self", "what", "one", "other"] (spI K ["what", "one", "other"]) :=
  ini2 (st0 := (defBody s_iUnlike).getD 0 default) (rest := (defBody s_iUnlike).drop 1) F sc_iUnlike rfl rfl (fun cdv A outer s H E => ⟨_, ps_expr (pe_viown V rfl G.c_SealError (pa_cons (pv 0) (pa_cons pe_str pa_nil)))⟩) (fun cdv A outer s H E => (.cons (pv 0) (pv 1) rfl (.cons (pv 0) (pv 2) rfl (.cons (pv 0) (pv 3) rfl .nil))))
def df_iUnlike : He.DefD := ⟨("Unlike", some "__init__"), "__init__", "Unlike.__init__", defArgs s_iUnlike, defBody s_iUnlike, defScope s_iUnlike, [], []⟩
abbrev s_iLeftOpen : Stmt := inClass (top 18) 0
theorem sc_iLeftOpen : FnScope ["self", "place"] ["self", "place"] (defScope s_iLeftOpen) := ⟨rfl, rfl, rfl, by decide +kernel, rfl, by decide +kernel, by decide +kernel⟩
theorem in_LeftOpen {f : Addr} {fd : FuncData} (F : FunD K "__init__" "LeftOpen.__init__" (defArgs s_iLeftOpen) (defBody s_iLeftOpen) (defScope s_iLeftOpen) [] [] f fd) (G : Gs K mg) (V : ViC K (He.ga K "SealError")) : FnOk P w K mg base (L2.CX P w) 1 f fd ["self", "place"] (spI K ["place"]) :=
  ini2 (st0 := (defBody s_iLeftOpen).getD 0 default) (rest := (defBody s_iLeftOpen).drop 1) F sc_iLeftOpen rfl rfl (fun cdv A outer s H E => ⟨_, ps_expr (pe_viown V rfl G.c_SealError (pa_cons (pv 0) (pa_cons pe_str pa_nil)))⟩) (fun cdv A outer s H E => (.cons (pv 0) (pv 1) rfl .nil))
def df_iLeftOpen : He.DefD := ⟨("LeftOpen", some "__init__"), "__init__", "LeftOpen.__init__", defArgs s_iLeftOpen, defBody s_iLeftOpen, defScope s_iLeftOpen, [], []⟩
abbrev s_iNoValue : Stmt := inClass (top 19) 0
theorem sc_iNoValue : FnScope ["self", "name"] ["self", "name"] (defScope s_iNoValue) := ⟨rfl, rfl, rfl, by decide +kernel, rfl, by decide +kernel, by decide +kernel⟩
theorem in_NoValue {f : Addr} {fd : FuncData} (F : FunD K "__init__" "NoValue.__init__" (defArgs s_iNoValue) (defBody s_iNoValue) (defScope s_iNoValue) [] [] f fd) (G : Gs K mg) (V : ViC K (He.ga K "SealError")) : FnOk P w K mg base (L2.CX P w) 1 f fd ["self", "name"] (spI K ["name"]) :=
  ini2 (st0 := (defBody s_iNoValue).getD 0 default) (rest := (defBody s_iNoValue).drop 1) F sc_iNoValue rfl rfl (fun cdv A outer s H E => ⟨_, ps_expr (pe_viown V rfl G.c_SealError (pa_cons (pv 0) (pa_cons pe_str pa_nil)))⟩) (fun cdv A outer s H E => (.cons (pv 0) (pv 1) rfl .nil))
def df_iNoValue : He.DefD := ⟨("NoValue", some "__init__"), "__init__", "NoValue.__init__", defArgs s_iNoValue, defBody s_iNoValue, defScope s_iNoValue, [], []⟩
abbrev s_iNoKind : Stmt := inClass (top 20) 0
theorem sc_iNoKind : FnScope ["self", "name"] ["self", "name"] (defScope s_iNoKind) := ⟨rfl, rfl, rfl, by decide +kernel, rfl, by decide +kernel, by decide +kernel⟩
theorem in_NoKind {f : Addr} {fd : FuncData} (F : FunD K "__init__" "NoKind.__init__" (defArgs s_iNoKind) (defBody s_iNoKind) (defScope s_iNoKind) [] [] f fd) (G : Gs K mg) (V : ViC K (He.ga K "SealError")) : FnOk P w K mg base (L2.CX P w) 1 f fd ["self", "name"] (spI K ["name"]) :=
  ini2 (st0 := (defBody s_iNoKind).getD 0 default) (rest := (defBody s_iNoKind).drop 1) F sc_iNoKind rfl rfl (fun cdv A outer s H E => ⟨_, ps_expr (pe_viown V rfl G.c_SealError (pa_cons (pv 0) (pa_cons pe_str pa_nil)))⟩) (fun cdv A outer s H E => (.cons (pv 0) (pv 1) rfl .nil))
def df_iNoKind : He.DefD := ⟨("NoKind", some "__init__"), "__init__", "NoKind.__init__", defArgs s_iNoKind, defBody s_iNoKind, defScope s_iNoKind, [], []⟩

/-! ### promises -/
def cl : List Str := ["NoSign", "NoCode", "Unread", "NoPage", "NoSheet", "NoName", "Twice", "Unknown", "NoElder", "NoValue", "NoKind", "RingOver", "Ringed", "LeftOpen", "Astray", "NoPlace", "Unlike", "Unended", "TooMany", "NoRow"]
def cn (k : Nat) : Str := cl.getD k ""
def fnm (k : Nat) : List Str := if k < 5 then ["at"] else if k < 11 then ["name"] else if k < 13 then ["ring"] else if k = 13 then ["place"] else if k = 14 then ["place", "at"] else if k = 15 then ["name", "place"] else if k = 16 then ["what", "one", "other"] else []
def Th (k : Nat) (ts : List D) : Prop := ts.length = (fnm k).length ∧ okL 60 ts = true
def sp_cell (_ : PySem.W.Frag) : Sp2 := fun ds μ q _ => ∃ (xs : List Int) (k : Nat), ds = [.arg (xs.map .int), .int k] ∧ k < 20 ∧ ∀ c : Int, q (.int c) μ
def sp_word (_ : PySem.W.Frag) : Sp2 := fun ds μ q _ => ∃ c : Int, ds = [.int c] ∧ ∀ wd : List Nat, wd.length ≤ 8 → wd.all (· < 0x110000) = true → q (.str wd) μ
def sp_things (_ : PySem.W.Frag) : Sp2 := fun ds μ q _ => ∃ (c : Int) (k : Nat), ds = [.int c, .int k] ∧ k < 20 ∧ ∀ ts, Th k ts → q (.lst ts) μ
def sp_first (K : PySem.W.Frag) : Sp2 := fun ds μ _ e => ∃ (k : Nat) (ts : List D), ds = [.int k, .lst ts] ∧ k < 11 ∧ Th k ts ∧ e (.ref (He.ga K (cn k))) ((fnm k).zip ts).reverse μ
def sp_raised (K : PySem.W.Frag) : Sp2 := fun ds μ _ e => ∃ (k : Nat) (ts : List D), ds = [.int k, .lst ts] ∧ k < 20 ∧ Th k ts ∧ e (.ref (He.ga K (cn k))) ((fnm k).zip ts).reverse μ
def sp_kinds (K : PySem.W.Frag) : Sp2 := fun ds μ q _ => ∃ (k : Nat) (ts : List D), ds = [.int k, .lst ts] ∧ k < 20 ∧ Th k ts ∧ q (.lst ((List.range 20).map (fun j => .bl (decide ((k : Int) = (j : Int)))) ++ [.bl true])) μ
def sp_kept (K : PySem.W.Frag) : Sp2 := fun ds μ q _ => ∃ (k : Nat) (ts : List D), ds = [.int k, .lst ts] ∧ k < 20 ∧ Th k ts ∧ q (.lst ts) μ
def sp_law (K : PySem.W.Frag) : Sp2 := fun ds μ q _ => ∃ xs : List Int, ds = [.arg (xs.map .int)] ∧ q (.bl true) μ

theorem blk_ok : BlkOk ["script", "k", "things", "one"] (defScope (top 30)) (match defBody (top 30) with | [.For _ _ (_ :: .If (.Compare _ _ [.BinOp (.ListComp _ _ sc _) _ _ _] _) _ _ _ :: _) _ _, _] => sc | _ => defScope (top 30)) [("one", 3)] := ⟨rfl, by decide +kernel, by decide +kernel, by decide +kernel, by decide +kernel⟩

abbrev s_cell : Stmt := top 23
theorem sc_cell : FnScope ["script", "k"] ["script", "k"] (defScope s_cell) := ⟨rfl, rfl, rfl, by decide +kernel, rfl, by decide +kernel, by decide +kernel⟩
def t_cell (K : PySem.W.Frag) : TS2 :=
  (rSeq (rIfS (rTest (rOp (intD0 fun i j => .bl (decide (i < j))) (rVar 1) (rCB lenC (rCons (rVar 0) rNil)))) (rRet (rCB absC (rCons (rOp ixD (rVar 0) (rVar 1)) rNil))) rNext)
    (rRet (rOp (addD false) (rOp mulD (rOp mulD (rCon (.int 7919)) (rVar 1)) (rVar 1)) (rCon (.int 11)))))
theorem dv_cell (G : Gs K mg) (U : Xs P w K mg base) {f : Addr} : ∀ (cdv : Value) (A : Around) (outer : List Env) (s : Shared) (H : Hp) (E : XK), Room 0 (A.deeper (envOfC "_law_cell" (defScope s_cell) s.heap.objs.size f cdv)) →
    DSs (cxOf (L2.CX P w) P w K mg base ["script", "k"] "_law_cell" (defScope s_cell) f cdv A outer s H E) (WF E) (defBody s_cell) (t_cell K) := fun cdv A outer s H E hr =>
  (ds_cons (ds_if (dt_cmp d_lt (dv 1) (d_callB c_len rfl G.b_len bt_len (da_cons (dv 0) da_nil)) rfl) (ds_one (ds_ret (d_callB c_abs rfl G.b_abs bt_abs (da_cons (d_ix (dv 0) (dv 1)) da_nil)))) ds_nil)
    (ds_one (ds_ret (d_op (d_add false) (d_op d_mul (d_op d_mul d_int (dv 1)) (dv 1)) d_int))))
theorem mk_cell {f : Addr} {fd : FuncData} (F : FunD K "_law_cell" "_law_cell" (defArgs s_cell) (defBody s_cell) (defScope s_cell) [] [] f fd) (hm : mg "_law_cell" = some (.ref f)) (G : Gs K mg) (U : Xs P w K mg base) (len : ∀ ds μ q e, sp_cell K ds μ q e → ds.length = 2)
    (law : ∀ ds μ q e, sp_cell K ds μ q e → t_cell K { nx := fun _ μ => q .non μ, rt := q, ex := fun c fs _ μ => e c fs μ } (start2 ["script", "k"] ds) μ) : Fn2 P w K mg base 1 "_law_cell" ["script", "k"] (sp_cell K) :=
  fnD_mk F hm (F.bindsN fun _ _ _ _ _ _ us hl => match us, hl with | [_, _], _ => rfl) (fnD F sc_cell len (dv_cell G U) law)
def df_cell : He.DefD := ⟨("_law_cell", none), "_law_cell", "_law_cell", defArgs s_cell, defBody s_cell, defScope s_cell, [], []⟩
abbrev s_word : Stmt := top 24
theorem sc_word : FnScope ["cell", "letters", "word", "k"] ["cell"] (defScope s_word) := ⟨rfl, rfl, rfl, by decide +kernel, rfl, by decide +kernel, by decide +kernel⟩
def t_word (K : PySem.W.Frag) : TS2 :=
  (rSeq (rSet 1 (rCon (.str [97,98,99,100,101,102,103,104,105,106,107,108,109,110,111,112,113,114,115,116,117,118,119,120,121,122])))
    (rSeq (rSet 2 (rCon (.str [])))
    (rSeq (rFor (iterR (rCons (rOp (addD false) (rCon (.int 1)) (rOp (D2.intO (fun _ j => 0 < j) fun i j => .int (i % j)) (rVar 0) (rCon (.int 8)))) rNil)) (.nm 3)
    (rSet 2 (rOp (addD false) (rVar 2) (rOp ixD (rVar 1) (rOp (D2.intO (fun _ j => 0 < j) fun i j => .int (i % j)) (rOp (addD false) (rOp (D2.intO CDivW fun i j => .int (i / j)) (rVar 0) (rCon (.int 8))) (rOp mulD (rOp mulD (rCon (.int 5)) (rVar 3)) (rVar 3))) (rCon (.int 26)))))))
    (rRet (rVar 2)))))
theorem dv_word (G : Gs K mg) (U : Xs P w K mg base) {f : Addr} : ∀ (cdv : Value) (A : Around) (outer : List Env) (s : Shared) (H : Hp) (E : XK), Room 0 (A.deeper (envOfC "_law_word" (defScope s_word) s.heap.objs.size f cdv)) →
    DSs (cxOf (L2.CX P w) P w K mg base ["cell", "letters", "word", "k"] "_law_word" (defScope s_word) f cdv A outer s H E) (WF E) (defBody s_word) (t_word K) := fun cdv A outer s H E hr =>
  (ds_cons (ds_set (i := 1) sc_word.nd rfl (Or.inl rfl) (d_str [97,98,99,100,101,102,103,104,105,106,107,108,109,110,111,112,113,114,115,116,117,118,119,120,121,122]))
    (ds_cons (ds_set (i := 2) sc_word.nd rfl (Or.inl rfl) (d_str []))
    (ds_cons (ds_for (passes_of rfl) rfl (di_range rfl G.b_range (da_cons (d_op (d_add false) d_int (d_op d_mod (dv 0) d_int)) da_nil)) (dg_nm sc_word.nd rfl (Or.inl rfl))
    (ds_one (ds_set (i := 2) sc_word.nd rfl (Or.inl rfl) (d_op (d_add false) (dv 2) (d_ix (dv 1) (d_op d_mod (d_op (d_add false) (d_op d_fdiv (dv 0) d_int) (d_op d_mul (d_op d_mul d_int (dv 3)) (dv 3))) d_int))))))
    (ds_one (ds_ret (dv 2))))))
theorem mk_word {f : Addr} {fd : FuncData} (F : FunD K "_law_word" "_law_word" (defArgs s_word) (defBody s_word) (defScope s_word) [] [] f fd) (hm : mg "_law_word" = some (.ref f)) (G : Gs K mg) (U : Xs P w K mg base) (len : ∀ ds μ q e, sp_word K ds μ q e → ds.length = 1)
    (law : ∀ ds μ q e, sp_word K ds μ q e → t_word K { nx := fun _ μ => q .non μ, rt := q, ex := fun c fs _ μ => e c fs μ } (start2 ["cell", "letters", "word", "k"] ds) μ) : Fn2 P w K mg base 1 "_law_word" ["cell"] (sp_word K) :=
  fnD_mk F hm (F.bindsN fun _ _ _ _ _ _ us hl => match us, hl with | [_], _ => rfl) (fnD F sc_word len (dv_word G U) law)
def df_word : He.DefD := ⟨("_law_word", none), "_law_word", "_law_word", defArgs s_word, defBody s_word, defScope s_word, [], []⟩
abbrev s_things : Stmt := top 25
theorem sc_things : FnScope ["cell", "k", "number", "name", "ring", "place"] ["cell", "k"] (defScope s_things) := ⟨rfl, rfl, rfl, by decide +kernel, rfl, by decide +kernel, by decide +kernel⟩
def t_things (K : PySem.W.Frag) : TS2 :=
  (rSeq (rSet 2 (rOp (D2.intO (fun _ j => 0 < j) fun i j => .int (i % j)) (rVar 0) (rOp (D2.intO CPow fun i j => .int (i ^ j.toNat)) (rCon (.int 10)) (rCon (.int 60)))))
    (rSeq (rSet 3 (rCall (sp_word K) (rCons (rOp (addD false) (rVar 0) (rVar 1)) rNil)))
    (rSeq (rSet 4 (rSl false (rLst false (rCons (rVar 3) (rCons (rCall (sp_word K) (rCons (rOp (addD false) (rOp (D2.intO CDivW fun i j => .int (i / j)) (rVar 0) (rCon (.int 3))) (rCon (.int 7))) rNil)) rNil))) rNoPart (rPart (rOp (addD false) (rCon (.int 1)) (rOp (D2.intO (fun _ j => 0 < j) fun i j => .int (i % j)) (rVar 0) (rCon (.int 2)))))))
    (rSeq (rSet 5 (rTup (rCons (rLst false (rCons (rOp (D2.intO (fun _ j => 0 < j) fun i j => .int (i % j)) (rVar 2) (rCon (.int 2))) (rCons (rOp (D2.intO (fun _ j => 0 < j) fun i j => .int (i % j)) (rOp (D2.intO CDivW fun i j => .int (i / j)) (rVar 2) (rCon (.int 2))) (rCon (.int 2))) rNil))) (rCons (rOp (D2.intO (fun _ j => 0 < j) fun i j => .int (i % j)) (rVar 2) (rCon (.int 7))) rNil))))
    (rSeq (rIfS (rTest (rOp (intD0 fun i j => .bl (decide (i < j))) (rVar 1) (rCon (.int 5)))) (rRet (rLst false (rCons (rVar 2) rNil))) rNext)
    (rSeq (rIfS (rTest (rOp (intD0 fun i j => .bl (decide (i < j))) (rVar 1) (rCon (.int 11)))) (rRet (rLst false (rCons (rVar 3) rNil))) rNext)
    (rSeq (rIfS (rTest (rOp (eqR false) (rVar 1) (rCon (.int 11)))) (rRet (rLst false (rCons (rVar 4) rNil))) rNext)
    (rSeq (rIfS (rTest (rOp (eqR false) (rVar 1) (rCon (.int 12)))) (rRet (rLst false (rCons (rSl false (rLst false (rCons (rTup (rCons (rVar 3) (rCons (rCon (.str [100,114,97,119])) (rCons (rVar 3) (rCons (rCon (.str [])) rNil))))) (rCons (rTup (rCons (rVar 3) (rCons (rCon (.str [98,108,111,99,107])) (rCons (rOp ixD (rVar 4) (rNeg (rCon (.int 1)))) (rCons (rVar 3) rNil))))) rNil))) rNoPart (rPart (rOp (addD false) (rCon (.int 1)) (rOp (D2.intO (fun _ j => 0 < j) fun i j => .int (i % j)) (rVar 0) (rCon (.int 2)))))) rNil))) rNext)
    (rSeq (rIfS (rTest (rOp (eqR false) (rVar 1) (rCon (.int 13)))) (rRet (rLst false (rCons (rVar 5) rNil))) rNext)
    (rSeq (rIfS (rTest (rOp (eqR false) (rVar 1) (rCon (.int 14)))) (rRet (rLst false (rCons (rVar 5) (rCons (rVar 2) rNil)))) rNext)
    (rSeq (rIfS (rTest (rOp (eqR false) (rVar 1) (rCon (.int 15)))) (rRet (rLst false (rCons (rVar 3) (rCons (rVar 5) rNil)))) rNext)
    (rSeq (rIfS (rTest (rOp (eqR false) (rVar 1) (rCon (.int 16)))) (rRet (rLst false (rCons (rTup (rCons (rCon (.str [105,102])) (rCons (rVar 3) rNil))) (rCons (rVar 5) (rCons (rTup (rCons (rLst false (rCons (rOp (intD0 fun i j => .int (i - j)) (rCon (.int 1)) (rOp (D2.intO (fun _ j => 0 < j) fun i j => .int (i % j)) (rVar 2) (rCon (.int 2)))) rNil)) (rCons (rOp (addD false) (rCon (.int 1)) (rOp (D2.intO (fun _ j => 0 < j) fun i j => .int (i % j)) (rVar 2) (rCon (.int 5)))) rNil))) rNil))))) rNext)
    (rRet (rLst false rNil))))))))))))))
theorem dv_things (G : Gs K mg) (U : Xs P w K mg base) (C_word : Fn2 P w K mg base 1 "_law_word" ["cell"] (sp_word K)) {f : Addr} : ∀ (cdv : Value) (A : Around) (outer : List Env) (s : Shared) (H : Hp) (E : XK), Room 1 (A.deeper (envOfC "_law_things" (defScope s_things) s.heap.objs.size f cdv)) →
    DSs (cxOf (L2.CX P w) P w K mg base ["cell", "k", "number", "name", "ring", "place"] "_law_things" (defScope s_things) f cdv A outer s H E) (WF E) (defBody s_things) (t_things K) := fun cdv A outer s H E hr =>
  (ds_cons (ds_set (i := 2) sc_things.nd rfl (Or.inl rfl) (d_op d_mod (dv 0) (d_op d_pow d_int d_int)))
    (ds_cons (ds_set (i := 3) sc_things.nd rfl (Or.inl rfl) (d_call C_word (hr.mono (by decide)) rfl takes_fn (da_cons (d_op (d_add false) (dv 0) (dv 1)) da_nil)))
    (ds_cons (ds_set (i := 4) sc_things.nd rfl (Or.inl rfl) (d_sl false (d_lst false (da_cons (dv 3) (da_cons (d_call C_word (hr.mono (by decide)) rfl takes_fn (da_cons (d_op (d_add false) (d_op d_fdiv (dv 0) d_int) d_int) da_nil)) da_nil))) do_none (do_some (d_op (d_add false) d_int (d_op d_mod (dv 0) d_int)))))
    (ds_cons (ds_set (i := 5) sc_things.nd rfl (Or.inl rfl) (d_tup (da_cons (d_lst false (da_cons (d_op d_mod (dv 2) d_int) (da_cons (d_op d_mod (d_op d_fdiv (dv 2) d_int) d_int) da_nil))) (da_cons (d_op d_mod (dv 2) d_int) da_nil))))
    (ds_cons (ds_if (dt_cmp d_lt (dv 1) d_int rfl) (ds_one (ds_ret (d_lst false (da_cons (dv 2) da_nil)))) ds_nil)
    (ds_cons (ds_if (dt_cmp d_lt (dv 1) d_int rfl) (ds_one (ds_ret (d_lst false (da_cons (dv 3) da_nil)))) ds_nil)
    (ds_cons (ds_if (dt_cmp (d_eq (D2.Room.eqs hr)) (dv 1) d_int rfl) (ds_one (ds_ret (d_lst false (da_cons (dv 4) da_nil)))) ds_nil)
    (ds_cons (ds_if (dt_cmp (d_eq (D2.Room.eqs hr)) (dv 1) d_int rfl) (ds_one (ds_ret (d_lst false (da_cons (d_sl false (d_lst false (da_cons (d_tup (da_cons (dv 3) (da_cons (d_str [100,114,97,119]) (da_cons (dv 3) (da_cons (d_str []) da_nil))))) (da_cons (d_tup (da_cons (dv 3) (da_cons (d_str [98,108,111,99,107]) (da_cons (d_ix (dv 4) (de_neg d_int)) (da_cons (dv 3) da_nil))))) da_nil))) do_none (do_some (d_op (d_add false) d_int (d_op d_mod (dv 0) d_int)))) da_nil)))) ds_nil)
    (ds_cons (ds_if (dt_cmp (d_eq (D2.Room.eqs hr)) (dv 1) d_int rfl) (ds_one (ds_ret (d_lst false (da_cons (dv 5) da_nil)))) ds_nil)
    (ds_cons (ds_if (dt_cmp (d_eq (D2.Room.eqs hr)) (dv 1) d_int rfl) (ds_one (ds_ret (d_lst false (da_cons (dv 5) (da_cons (dv 2) da_nil))))) ds_nil)
    (ds_cons (ds_if (dt_cmp (d_eq (D2.Room.eqs hr)) (dv 1) d_int rfl) (ds_one (ds_ret (d_lst false (da_cons (dv 3) (da_cons (dv 5) da_nil))))) ds_nil)
    (ds_cons (ds_if (dt_cmp (d_eq (D2.Room.eqs hr)) (dv 1) d_int rfl) (ds_one (ds_ret (d_lst false (da_cons (d_tup (da_cons (d_str [105,102]) (da_cons (dv 3) da_nil))) (da_cons (dv 5) (da_cons (d_tup (da_cons (d_lst false (da_cons (d_op d_sub d_int (d_op d_mod (dv 2) d_int)) da_nil)) (da_cons (d_op (d_add false) d_int (d_op d_mod (dv 2) d_int)) da_nil))) da_nil)))))) ds_nil)
    (ds_one (ds_ret (d_lst false da_nil)))))))))))))))
theorem mk_things {f : Addr} {fd : FuncData} (F : FunD K "_law_things" "_law_things" (defArgs s_things) (defBody s_things) (defScope s_things) [] [] f fd) (hm : mg "_law_things" = some (.ref f)) (G : Gs K mg) (U : Xs P w K mg base) (C_word : Fn2 P w K mg base 1 "_law_word" ["cell"] (sp_word K)) (len : ∀ ds μ q e, sp_things K ds μ q e → ds.length = 2)
    (law : ∀ ds μ q e, sp_things K ds μ q e → t_things K { nx := fun _ μ => q .non μ, rt := q, ex := fun c fs _ μ => e c fs μ } (start2 ["cell", "k", "number", "name", "ring", "place"] ds) μ) : Fn2 P w K mg base 2 "_law_things" ["cell", "k"] (sp_things K) :=
  fnD_mk F hm (F.bindsN fun _ _ _ _ _ _ us hl => match us, hl with | [_, _], _ => rfl) (fnD F sc_things len (dv_things G U C_word) law)
def df_things : He.DefD := ⟨("_law_things", none), "_law_things", "_law_things", defArgs s_things, defBody s_things, defScope s_things, [], []⟩
abbrev s_first : Stmt := top 26
theorem sc_first : FnScope ["k", "things"] ["k", "things"] (defScope s_first) := ⟨rfl, rfl, rfl, by decide +kernel, rfl, by decide +kernel, by decide +kernel⟩
def t_first (K : PySem.W.Frag) : TS2 :=
  (rSeq (rIfS (rTest (rOp (eqR false) (rVar 0) (rCon (.int 0)))) (rRaise (.ref (He.ga K "NoSign")) ["at"] (rCons (rOp ixD (rVar 1) (rCon (.int 0))) rNil)) rNext)
    (rSeq (rIfS (rTest (rOp (eqR false) (rVar 0) (rCon (.int 1)))) (rRaise (.ref (He.ga K "NoCode")) ["at"] (rCons (rOp ixD (rVar 1) (rCon (.int 0))) rNil)) rNext)
    (rSeq (rIfS (rTest (rOp (eqR false) (rVar 0) (rCon (.int 2)))) (rRaise (.ref (He.ga K "Unread")) ["at"] (rCons (rOp ixD (rVar 1) (rCon (.int 0))) rNil)) rNext)
    (rSeq (rIfS (rTest (rOp (eqR false) (rVar 0) (rCon (.int 3)))) (rRaise (.ref (He.ga K "NoPage")) ["at"] (rCons (rOp ixD (rVar 1) (rCon (.int 0))) rNil)) rNext)
    (rSeq (rIfS (rTest (rOp (eqR false) (rVar 0) (rCon (.int 4)))) (rRaise (.ref (He.ga K "NoSheet")) ["at"] (rCons (rOp ixD (rVar 1) (rCon (.int 0))) rNil)) rNext)
    (rSeq (rIfS (rTest (rOp (eqR false) (rVar 0) (rCon (.int 5)))) (rRaise (.ref (He.ga K "NoName")) ["name"] (rCons (rOp ixD (rVar 1) (rCon (.int 0))) rNil)) rNext)
    (rSeq (rIfS (rTest (rOp (eqR false) (rVar 0) (rCon (.int 6)))) (rRaise (.ref (He.ga K "Twice")) ["name"] (rCons (rOp ixD (rVar 1) (rCon (.int 0))) rNil)) rNext)
    (rSeq (rIfS (rTest (rOp (eqR false) (rVar 0) (rCon (.int 7)))) (rRaise (.ref (He.ga K "Unknown")) ["name"] (rCons (rOp ixD (rVar 1) (rCon (.int 0))) rNil)) rNext)
    (rSeq (rIfS (rTest (rOp (eqR false) (rVar 0) (rCon (.int 8)))) (rRaise (.ref (He.ga K "NoElder")) ["name"] (rCons (rOp ixD (rVar 1) (rCon (.int 0))) rNil)) rNext)
    (rSeq (rIfS (rTest (rOp (eqR false) (rVar 0) (rCon (.int 9)))) (rRaise (.ref (He.ga K "NoValue")) ["name"] (rCons (rOp ixD (rVar 1) (rCon (.int 0))) rNil)) rNext)
    (rRaise (.ref (He.ga K "NoKind")) ["name"] (rCons (rOp ixD (rVar 1) (rCon (.int 0))) rNil))))))))))))
theorem dv_first (G : Gs K mg) (U : Xs P w K mg base) {f : Addr} : ∀ (cdv : Value) (A : Around) (outer : List Env) (s : Shared) (H : Hp) (E : XK), Room 2 (A.deeper (envOfC "_law_first" (defScope s_first) s.heap.objs.size f cdv)) →
    DSs (cxOf (L2.CX P w) P w K mg base ["k", "things"] "_law_first" (defScope s_first) f cdv A outer s H E) (WF E) (defBody s_first) (t_first K) := fun cdv A outer s H E hr =>
  (ds_cons (ds_if (dt_cmp (d_eq (D2.Room.eqs hr)) (dv 0) d_int rfl) (ds_one (ds_raise rfl takes_fn U.m_NoSign (hr.mono (by decide)) rfl rfl (da_cons (d_ix (dv 1) d_int) da_nil))) ds_nil)
    (ds_cons (ds_if (dt_cmp (d_eq (D2.Room.eqs hr)) (dv 0) d_int rfl) (ds_one (ds_raise rfl takes_fn U.m_NoCode (hr.mono (by decide)) rfl rfl (da_cons (d_ix (dv 1) d_int) da_nil))) ds_nil)
    (ds_cons (ds_if (dt_cmp (d_eq (D2.Room.eqs hr)) (dv 0) d_int rfl) (ds_one (ds_raise rfl takes_fn U.m_Unread (hr.mono (by decide)) rfl rfl (da_cons (d_ix (dv 1) d_int) da_nil))) ds_nil)
    (ds_cons (ds_if (dt_cmp (d_eq (D2.Room.eqs hr)) (dv 0) d_int rfl) (ds_one (ds_raise rfl takes_fn U.m_NoPage (hr.mono (by decide)) rfl rfl (da_cons (d_ix (dv 1) d_int) da_nil))) ds_nil)
    (ds_cons (ds_if (dt_cmp (d_eq (D2.Room.eqs hr)) (dv 0) d_int rfl) (ds_one (ds_raise rfl takes_fn U.m_NoSheet (hr.mono (by decide)) rfl rfl (da_cons (d_ix (dv 1) d_int) da_nil))) ds_nil)
    (ds_cons (ds_if (dt_cmp (d_eq (D2.Room.eqs hr)) (dv 0) d_int rfl) (ds_one (ds_raise rfl takes_fn U.m_NoName (hr.mono (by decide)) rfl rfl (da_cons (d_ix (dv 1) d_int) da_nil))) ds_nil)
    (ds_cons (ds_if (dt_cmp (d_eq (D2.Room.eqs hr)) (dv 0) d_int rfl) (ds_one (ds_raise rfl takes_fn U.m_Twice (hr.mono (by decide)) rfl rfl (da_cons (d_ix (dv 1) d_int) da_nil))) ds_nil)
    (ds_cons (ds_if (dt_cmp (d_eq (D2.Room.eqs hr)) (dv 0) d_int rfl) (ds_one (ds_raise rfl takes_fn U.m_Unknown (hr.mono (by decide)) rfl rfl (da_cons (d_ix (dv 1) d_int) da_nil))) ds_nil)
    (ds_cons (ds_if (dt_cmp (d_eq (D2.Room.eqs hr)) (dv 0) d_int rfl) (ds_one (ds_raise rfl takes_fn U.m_NoElder (hr.mono (by decide)) rfl rfl (da_cons (d_ix (dv 1) d_int) da_nil))) ds_nil)
    (ds_cons (ds_if (dt_cmp (d_eq (D2.Room.eqs hr)) (dv 0) d_int rfl) (ds_one (ds_raise rfl takes_fn U.m_NoValue (hr.mono (by decide)) rfl rfl (da_cons (d_ix (dv 1) d_int) da_nil))) ds_nil)
    (ds_one (ds_raise rfl takes_fn U.m_NoKind (hr.mono (by decide)) rfl rfl (da_cons (d_ix (dv 1) d_int) da_nil)))))))))))))
theorem mk_first {f : Addr} {fd : FuncData} (F : FunD K "_law_first" "_law_first" (defArgs s_first) (defBody s_first) (defScope s_first) [] [] f fd) (hm : mg "_law_first" = some (.ref f)) (G : Gs K mg) (U : Xs P w K mg base) (len : ∀ ds μ q e, sp_first K ds μ q e → ds.length = 2)
    (law : ∀ ds μ q e, sp_first K ds μ q e → t_first K { nx := fun _ μ => q .non μ, rt := q, ex := fun c fs _ μ => e c fs μ } (start2 ["k", "things"] ds) μ) : Fn2 P w K mg base 3 "_law_first" ["k", "things"] (sp_first K) :=
  fnD_mk F hm (F.bindsN fun _ _ _ _ _ _ us hl => match us, hl with | [_, _], _ => rfl) (fnD F sc_first len (dv_first G U) law)
def df_first : He.DefD := ⟨("_law_first", none), "_law_first", "_law_first", defArgs s_first, defBody s_first, defScope s_first, [], []⟩
abbrev s_raised : Stmt := top 27
theorem sc_raised : FnScope ["k", "things"] ["k", "things"] (defScope s_raised) := ⟨rfl, rfl, rfl, by decide +kernel, rfl, by decide +kernel, by decide +kernel⟩
def t_raised (K : PySem.W.Frag) : TS2 :=
  (rSeq (rIfS (rTest (rOp (intD0 fun i j => .bl (decide (i < j))) (rVar 0) (rCon (.int 11)))) (rDrop (rCall (sp_first K) (rCons (rVar 0) (rCons (rVar 1) rNil)))) rNext)
    (rSeq (rIfS (rTest (rOp (eqR false) (rVar 0) (rCon (.int 11)))) (rRaise (.ref (He.ga K "RingOver")) ["ring"] (rCons (rOp ixD (rVar 1) (rCon (.int 0))) rNil)) rNext)
    (rSeq (rIfS (rTest (rOp (eqR false) (rVar 0) (rCon (.int 12)))) (rRaise (.ref (He.ga K "Ringed")) ["ring"] (rCons (rOp ixD (rVar 1) (rCon (.int 0))) rNil)) rNext)
    (rSeq (rIfS (rTest (rOp (eqR false) (rVar 0) (rCon (.int 13)))) (rRaise (.ref (He.ga K "LeftOpen")) ["place"] (rCons (rOp ixD (rVar 1) (rCon (.int 0))) rNil)) rNext)
    (rSeq (rIfS (rTest (rOp (eqR false) (rVar 0) (rCon (.int 14)))) (rRaise (.ref (He.ga K "Astray")) ["place","at"] (rCons (rOp ixD (rVar 1) (rCon (.int 0))) (rCons (rOp ixD (rVar 1) (rCon (.int 1))) rNil))) rNext)
    (rSeq (rIfS (rTest (rOp (eqR false) (rVar 0) (rCon (.int 15)))) (rRaise (.ref (He.ga K "NoPlace")) ["name","place"] (rCons (rOp ixD (rVar 1) (rCon (.int 0))) (rCons (rOp ixD (rVar 1) (rCon (.int 1))) rNil))) rNext)
    (rSeq (rIfS (rTest (rOp (eqR false) (rVar 0) (rCon (.int 16)))) (rRaise (.ref (He.ga K "Unlike")) ["what","one","other"] (rCons (rOp ixD (rVar 1) (rCon (.int 0))) (rCons (rOp ixD (rVar 1) (rCon (.int 1))) (rCons (rOp ixD (rVar 1) (rCon (.int 2))) rNil)))) rNext)
    (rSeq (rIfS (rTest (rOp (eqR false) (rVar 0) (rCon (.int 17)))) (rRaise0 (.ref (He.ga K "Unended"))) rNext)
    (rSeq (rIfS (rTest (rOp (eqR false) (rVar 0) (rCon (.int 18)))) (rRaise0 (.ref (He.ga K "TooMany"))) rNext)
    (rRaise0 (.ref (He.ga K "NoRow"))))))))))))
theorem dv_raised (G : Gs K mg) (U : Xs P w K mg base) (C_first : Fn2 P w K mg base 3 "_law_first" ["k", "things"] (sp_first K)) {f : Addr} : ∀ (cdv : Value) (A : Around) (outer : List Env) (s : Shared) (H : Hp) (E : XK), Room 3 (A.deeper (envOfC "_law_raised" (defScope s_raised) s.heap.objs.size f cdv)) →
    DSs (cxOf (L2.CX P w) P w K mg base ["k", "things"] "_law_raised" (defScope s_raised) f cdv A outer s H E) (WF E) (defBody s_raised) (t_raised K) := fun cdv A outer s H E hr =>
  (ds_cons (ds_if (dt_cmp d_lt (dv 0) d_int rfl) (ds_one (ds_expr (d_call C_first (hr.mono (by decide)) rfl takes_fn (da_cons (dv 0) (da_cons (dv 1) da_nil))))) ds_nil)
    (ds_cons (ds_if (dt_cmp (d_eq (D2.Room.eqs hr)) (dv 0) d_int rfl) (ds_one (ds_raise rfl takes_fn U.m_RingOver (hr.mono (by decide)) rfl rfl (da_cons (d_ix (dv 1) d_int) da_nil))) ds_nil)
    (ds_cons (ds_if (dt_cmp (d_eq (D2.Room.eqs hr)) (dv 0) d_int rfl) (ds_one (ds_raise rfl takes_fn U.m_Ringed (hr.mono (by decide)) rfl rfl (da_cons (d_ix (dv 1) d_int) da_nil))) ds_nil)
    (ds_cons (ds_if (dt_cmp (d_eq (D2.Room.eqs hr)) (dv 0) d_int rfl) (ds_one (ds_raise rfl takes_fn U.m_LeftOpen (hr.mono (by decide)) rfl rfl (da_cons (d_ix (dv 1) d_int) da_nil))) ds_nil)
    (ds_cons (ds_if (dt_cmp (d_eq (D2.Room.eqs hr)) (dv 0) d_int rfl) (ds_one (ds_raise rfl takes_fn U.m_Astray (hr.mono (by decide)) rfl rfl (da_cons (d_ix (dv 1) d_int) (da_cons (d_ix (dv 1) d_int) da_nil)))) ds_nil)
    (ds_cons (ds_if (dt_cmp (d_eq (D2.Room.eqs hr)) (dv 0) d_int rfl) (ds_one (ds_raise rfl takes_fn U.m_NoPlace (hr.mono (by decide)) rfl rfl (da_cons (d_ix (dv 1) d_int) (da_cons (d_ix (dv 1) d_int) da_nil)))) ds_nil)
    (ds_cons (ds_if (dt_cmp (d_eq (D2.Room.eqs hr)) (dv 0) d_int rfl) (ds_one (ds_raise rfl takes_fn U.m_Unlike (hr.mono (by decide)) rfl rfl (da_cons (d_ix (dv 1) d_int) (da_cons (d_ix (dv 1) d_int) (da_cons (d_ix (dv 1) d_int) da_nil))))) ds_nil)
    (ds_cons (ds_if (dt_cmp (d_eq (D2.Room.eqs hr)) (dv 0) d_int rfl) (ds_one (ds_raise0 rfl takes_fn U.m_Unended rfl)) ds_nil)
    (ds_cons (ds_if (dt_cmp (d_eq (D2.Room.eqs hr)) (dv 0) d_int rfl) (ds_one (ds_raise0 rfl takes_fn U.m_TooMany rfl)) ds_nil)
    (ds_one (ds_raise0 rfl takes_fn U.m_NoRow rfl)))))))))))
theorem mk_raised {f : Addr} {fd : FuncData} (F : FunD K "_law_raised" "_law_raised" (defArgs s_raised) (defBody s_raised) (defScope s_raised) [] [] f fd) (hm : mg "_law_raised" = some (.ref f)) (G : Gs K mg) (U : Xs P w K mg base) (C_first : Fn2 P w K mg base 3 "_law_first" ["k", "things"] (sp_first K)) (len : ∀ ds μ q e, sp_raised K ds μ q e → ds.length = 2)
    (law : ∀ ds μ q e, sp_raised K ds μ q e → t_raised K { nx := fun _ μ => q .non μ, rt := q, ex := fun c fs _ μ => e c fs μ } (start2 ["k", "things"] ds) μ) : Fn2 P w K mg base 4 "_law_raised" ["k", "things"] (sp_raised K) :=
  fnD_mk F hm (F.bindsN fun _ _ _ _ _ _ us hl => match us, hl with | [_, _], _ => rfl) (fnD F sc_raised len (dv_raised G U C_first) law)
def df_raised : He.DefD := ⟨("_law_raised", none), "_law_raised", "_law_raised", defArgs s_raised, defBody s_raised, defScope s_raised, [], []⟩
abbrev s_kinds : Stmt := top 28
theorem sc_kinds : FnScope ["k", "things", "e", "some"] ["k", "things"] (defScope s_kinds) := ⟨rfl, rfl, rfl, by decide +kernel, rfl, by decide +kernel, by decide +kernel⟩
def t_kinds (K : PySem.W.Frag) : TS2 :=
  (rSeq (rTry K (.ref (He.ga K "SealError")) 2 (rDrop (rCall (sp_raised K) (rCons (rVar 0) (rCons (rVar 1) rNil)))) (fun a d cls => (rSeq (rSet 3 (rLst false (rCons (rCB (isxC K a d cls) (rCons (rVar 2) (rCons (rCon (.opq (.ref (He.ga K "NoSign")))) rNil))) (rCons (rCB (isxC K a d cls) (rCons (rVar 2) (rCons (rCon (.opq (.ref (He.ga K "NoCode")))) rNil))) (rCons (rCB (isxC K a d cls) (rCons (rVar 2) (rCons (rCon (.opq (.ref (He.ga K "Unread")))) rNil))) (rCons (rCB (isxC K a d cls) (rCons (rVar 2) (rCons (rCon (.opq (.ref (He.ga K "NoPage")))) rNil))) rNil))))))
    (rSeq (rSet 3 (rOp (addD false) (rVar 3) (rLst false (rCons (rCB (isxC K a d cls) (rCons (rVar 2) (rCons (rCon (.opq (.ref (He.ga K "NoSheet")))) rNil))) (rCons (rCB (isxC K a d cls) (rCons (rVar 2) (rCons (rCon (.opq (.ref (He.ga K "NoName")))) rNil))) (rCons (rCB (isxC K a d cls) (rCons (rVar 2) (rCons (rCon (.opq (.ref (He.ga K "Twice")))) rNil))) (rCons (rCB (isxC K a d cls) (rCons (rVar 2) (rCons (rCon (.opq (.ref (He.ga K "Unknown")))) rNil))) rNil)))))))
    (rSeq (rSet 3 (rOp (addD false) (rVar 3) (rLst false (rCons (rCB (isxC K a d cls) (rCons (rVar 2) (rCons (rCon (.opq (.ref (He.ga K "NoElder")))) rNil))) (rCons (rCB (isxC K a d cls) (rCons (rVar 2) (rCons (rCon (.opq (.ref (He.ga K "NoValue")))) rNil))) (rCons (rCB (isxC K a d cls) (rCons (rVar 2) (rCons (rCon (.opq (.ref (He.ga K "NoKind")))) rNil))) (rCons (rCB (isxC K a d cls) (rCons (rVar 2) (rCons (rCon (.opq (.ref (He.ga K "RingOver")))) rNil))) rNil)))))))
    (rSeq (rSet 3 (rOp (addD false) (rVar 3) (rLst false (rCons (rCB (isxC K a d cls) (rCons (rVar 2) (rCons (rCon (.opq (.ref (He.ga K "Ringed")))) rNil))) (rCons (rCB (isxC K a d cls) (rCons (rVar 2) (rCons (rCon (.opq (.ref (He.ga K "LeftOpen")))) rNil))) (rCons (rCB (isxC K a d cls) (rCons (rVar 2) (rCons (rCon (.opq (.ref (He.ga K "Astray")))) rNil))) (rCons (rCB (isxC K a d cls) (rCons (rVar 2) (rCons (rCon (.opq (.ref (He.ga K "NoPlace")))) rNil))) rNil)))))))
    (rSeq (rSet 3 (rOp (addD false) (rVar 3) (rLst false (rCons (rCB (isxC K a d cls) (rCons (rVar 2) (rCons (rCon (.opq (.ref (He.ga K "Unlike")))) rNil))) (rCons (rCB (isxC K a d cls) (rCons (rVar 2) (rCons (rCon (.opq (.ref (He.ga K "Unended")))) rNil))) (rCons (rCB (isxC K a d cls) (rCons (rVar 2) (rCons (rCon (.opq (.ref (He.ga K "TooMany")))) rNil))) (rCons (rCB (isxC K a d cls) (rCons (rVar 2) (rCons (rCon (.opq (.ref (He.ga K "NoRow")))) rNil))) rNil)))))))
    (rRet (rOp (addD false) (rVar 3) (rLst false (rCons (rCB (isxC K a d cls) (rCons (rVar 2) (rCons (rCon (.opq (.ty "ValueError"))) rNil))) rNil)))))))))))
    (rRet (rLst false rNil)))
theorem dv_kinds (G : Gs K mg) (U : Xs P w K mg base) (C_raised : Fn2 P w K mg base 4 "_law_raised" ["k", "things"] (sp_raised K)) {f : Addr} : ∀ (cdv : Value) (A : Around) (outer : List Env) (s : Shared) (H : Hp) (E : XK), Room 4 (A.deeper (envOfC "_law_kinds" (defScope s_kinds) s.heap.objs.size f cdv)) →
    DSs (cxOf (L2.CX P w) P w K mg base ["k", "things", "e", "some"] "_law_kinds" (defScope s_kinds) f cdv A outer s H E) (WF E) (defBody s_kinds) (t_kinds K) := fun cdv A outer s H E hr =>
  (ds_cons (ds_try_as (i := 2) rfl rfl sc_kinds.nd rfl rfl ⟨rfl, by decide, .inl G.c_SealError⟩ takes_fn (fun W1 pn1 xe1 tk1 po1 => (ds_one (ds_expr (d_call C_raised (hr.mono (by decide)) rfl tk1 (da_cons (dv 0) (da_cons (dv 1) da_nil)))))) (fun a oe cls d pn hz hf =>
    (ds_cons (ds_set (i := 3) sc_kinds.nd rfl (Or.inl rfl) (d_lst false (da_cons (d_callB (c_isx hz hf) rfl G.b_isinstance bt_isinstance (da_cons (dv 2) (da_cons (d_cls G.c_NoSign rfl) da_nil))) (da_cons (d_callB (c_isx hz hf) rfl G.b_isinstance bt_isinstance (da_cons (dv 2) (da_cons (d_cls G.c_NoCode rfl) da_nil))) (da_cons (d_callB (c_isx hz hf) rfl G.b_isinstance bt_isinstance (da_cons (dv 2) (da_cons (d_cls G.c_Unread rfl) da_nil))) (da_cons (d_callB (c_isx hz hf) rfl G.b_isinstance bt_isinstance (da_cons (dv 2) (da_cons (d_cls G.c_NoPage rfl) da_nil))) da_nil))))))
    (ds_cons (ds_set (i := 3) sc_kinds.nd rfl (Or.inl rfl) (d_op (d_add false) (dv 3) (d_lst false (da_cons (d_callB (c_isx hz hf) rfl G.b_isinstance bt_isinstance (da_cons (dv 2) (da_cons (d_cls G.c_NoSheet rfl) da_nil))) (da_cons (d_callB (c_isx hz hf) rfl G.b_isinstance bt_isinstance (da_cons (dv 2) (da_cons (d_cls G.c_NoName rfl) da_nil))) (da_cons (d_callB (c_isx hz hf) rfl G.b_isinstance bt_isinstance (da_cons (dv 2) (da_cons (d_cls G.c_Twice rfl) da_nil))) (da_cons (d_callB (c_isx hz hf) rfl G.b_isinstance bt_isinstance (da_cons (dv 2) (da_cons (d_cls G.c_Unknown rfl) da_nil))) da_nil)))))))
    (ds_cons (ds_set (i := 3) sc_kinds.nd rfl (Or.inl rfl) (d_op (d_add false) (dv 3) (d_lst false (da_cons (d_callB (c_isx hz hf) rfl G.b_isinstance bt_isinstance (da_cons (dv 2) (da_cons (d_cls G.c_NoElder rfl) da_nil))) (da_cons (d_callB (c_isx hz hf) rfl G.b_isinstance bt_isinstance (da_cons (dv 2) (da_cons (d_cls G.c_NoValue rfl) da_nil))) (da_cons (d_callB (c_isx hz hf) rfl G.b_isinstance bt_isinstance (da_cons (dv 2) (da_cons (d_cls G.c_NoKind rfl) da_nil))) (da_cons (d_callB (c_isx hz hf) rfl G.b_isinstance bt_isinstance (da_cons (dv 2) (da_cons (d_cls G.c_RingOver rfl) da_nil))) da_nil)))))))
    (ds_cons (ds_set (i := 3) sc_kinds.nd rfl (Or.inl rfl) (d_op (d_add false) (dv 3) (d_lst false (da_cons (d_callB (c_isx hz hf) rfl G.b_isinstance bt_isinstance (da_cons (dv 2) (da_cons (d_cls G.c_Ringed rfl) da_nil))) (da_cons (d_callB (c_isx hz hf) rfl G.b_isinstance bt_isinstance (da_cons (dv 2) (da_cons (d_cls G.c_LeftOpen rfl) da_nil))) (da_cons (d_callB (c_isx hz hf) rfl G.b_isinstance bt_isinstance (da_cons (dv 2) (da_cons (d_cls G.c_Astray rfl) da_nil))) (da_cons (d_callB (c_isx hz hf) rfl G.b_isinstance bt_isinstance (da_cons (dv 2) (da_cons (d_cls G.c_NoPlace rfl) da_nil))) da_nil)))))))
    (ds_cons (ds_set (i := 3) sc_kinds.nd rfl (Or.inl rfl) (d_op (d_add false) (dv 3) (d_lst false (da_cons (d_callB (c_isx hz hf) rfl G.b_isinstance bt_isinstance (da_cons (dv 2) (da_cons (d_cls G.c_Unlike rfl) da_nil))) (da_cons (d_callB (c_isx hz hf) rfl G.b_isinstance bt_isinstance (da_cons (dv 2) (da_cons (d_cls G.c_Unended rfl) da_nil))) (da_cons (d_callB (c_isx hz hf) rfl G.b_isinstance bt_isinstance (da_cons (dv 2) (da_cons (d_cls G.c_TooMany rfl) da_nil))) (da_cons (d_callB (c_isx hz hf) rfl G.b_isinstance bt_isinstance (da_cons (dv 2) (da_cons (d_cls G.c_NoRow rfl) da_nil))) da_nil)))))))
    (ds_one (ds_ret (d_op (d_add false) (dv 3) (d_lst false (da_cons (d_callB (c_isx hz hf) rfl G.b_isinstance bt_isinstance (da_cons (dv 2) (da_cons (d_tyO rfl G.b_ValueError bt_ValueError) da_nil))) da_nil))))))))))))
    (ds_one (ds_ret (d_lst false da_nil))))
theorem mk_kinds {f : Addr} {fd : FuncData} (F : FunD K "_law_kinds" "_law_kinds" (defArgs s_kinds) (defBody s_kinds) (defScope s_kinds) [] [] f fd) (hm : mg "_law_kinds" = some (.ref f)) (G : Gs K mg) (U : Xs P w K mg base) (C_raised : Fn2 P w K mg base 4 "_law_raised" ["k", "things"] (sp_raised K)) (len : ∀ ds μ q e, sp_kinds K ds μ q e → ds.length = 2)
    (law : ∀ ds μ q e, sp_kinds K ds μ q e → t_kinds K { nx := fun _ μ => q .non μ, rt := q, ex := fun c fs _ μ => e c fs μ } (start2 ["k", "things", "e", "some"] ds) μ) : Fn2 P w K mg base 5 "_law_kinds" ["k", "things"] (sp_kinds K) :=
  fnD_mk F hm (F.bindsN fun _ _ _ _ _ _ us hl => match us, hl with | [_, _], _ => rfl) (fnD F sc_kinds len (dv_kinds G U C_raised) law)
def df_kinds : He.DefD := ⟨("_law_kinds", none), "_law_kinds", "_law_kinds", defArgs s_kinds, defBody s_kinds, defScope s_kinds, [], []⟩
abbrev s_kept : Stmt := top 29
theorem sc_kept : FnScope ["k", "things", "e"] ["k", "things"] (defScope s_kept) := ⟨rfl, rfl, rfl, by decide +kernel, rfl, by decide +kernel, by decide +kernel⟩
def t_kept (K : PySem.W.Frag) : TS2 :=
  (rSeq (rTry K (.ref (He.ga K "SealError")) 2 (rDrop (rCall (sp_raised K) (rCons (rVar 0) (rCons (rVar 1) rNil)))) (fun a d cls => (rSeq (rIfS (rTest (rOp (intD0 fun i j => .bl (decide (i < j))) (rVar 0) (rCon (.int 5)))) (rRet (rLst false (rCons (rXf K a d cls "at" (rVar 2)) rNil))) rNext)
    (rSeq (rIfS (rTest (rOp (intD0 fun i j => .bl (decide (i < j))) (rVar 0) (rCon (.int 11)))) (rRet (rLst false (rCons (rXf K a d cls "name" (rVar 2)) rNil))) rNext)
    (rSeq (rIfS (rTest (rOp (intD0 fun i j => .bl (decide (i < j))) (rVar 0) (rCon (.int 13)))) (rRet (rLst false (rCons (rXf K a d cls "ring" (rVar 2)) rNil))) rNext)
    (rSeq (rIfS (rTest (rOp (eqR false) (rVar 0) (rCon (.int 13)))) (rRet (rLst false (rCons (rXf K a d cls "place" (rVar 2)) rNil))) rNext)
    (rSeq (rIfS (rTest (rOp (eqR false) (rVar 0) (rCon (.int 14)))) (rRet (rLst false (rCons (rXf K a d cls "place" (rVar 2)) (rCons (rXf K a d cls "at" (rVar 2)) rNil)))) rNext)
    (rSeq (rIfS (rTest (rOp (eqR false) (rVar 0) (rCon (.int 15)))) (rRet (rLst false (rCons (rXf K a d cls "name" (rVar 2)) (rCons (rXf K a d cls "place" (rVar 2)) rNil)))) rNext)
    (rIfS (rTest (rOp (eqR false) (rVar 0) (rCon (.int 16)))) (rRet (rLst false (rCons (rXf K a d cls "what" (rVar 2)) (rCons (rXf K a d cls "one" (rVar 2)) (rCons (rXf K a d cls "other" (rVar 2)) rNil))))) rNext)))))))))
    (rRet (rLst false rNil)))
theorem dv_kept (G : Gs K mg) (U : Xs P w K mg base) (C_raised : Fn2 P w K mg base 4 "_law_raised" ["k", "things"] (sp_raised K)) {f : Addr} : ∀ (cdv : Value) (A : Around) (outer : List Env) (s : Shared) (H : Hp) (E : XK), Room 4 (A.deeper (envOfC "_law_kept" (defScope s_kept) s.heap.objs.size f cdv)) →
    DSs (cxOf (L2.CX P w) P w K mg base ["k", "things", "e"] "_law_kept" (defScope s_kept) f cdv A outer s H E) (WF E) (defBody s_kept) (t_kept K) := fun cdv A outer s H E hr =>
  (ds_cons (ds_try_as (i := 2) rfl rfl sc_kept.nd rfl rfl ⟨rfl, by decide, .inl G.c_SealError⟩ takes_fn (fun W1 pn1 xe1 tk1 po1 => (ds_one (ds_expr (d_call C_raised (hr.mono (by decide)) rfl tk1 (da_cons (dv 0) (da_cons (dv 1) da_nil)))))) (fun a oe cls d pn hz hf =>
    (ds_cons (ds_if (dt_cmp d_lt (dv 0) d_int rfl) (ds_one (ds_ret (d_lst false (da_cons (de_xf hz hf (dv 2)) da_nil)))) ds_nil)
    (ds_cons (ds_if (dt_cmp d_lt (dv 0) d_int rfl) (ds_one (ds_ret (d_lst false (da_cons (de_xf hz hf (dv 2)) da_nil)))) ds_nil)
    (ds_cons (ds_if (dt_cmp d_lt (dv 0) d_int rfl) (ds_one (ds_ret (d_lst false (da_cons (de_xf hz hf (dv 2)) da_nil)))) ds_nil)
    (ds_cons (ds_if (dt_cmp (d_eq (have z := D2.Room.eqs hr; z)) (dv 0) d_int rfl) (ds_one (ds_ret (d_lst false (da_cons (de_xf hz hf (dv 2)) da_nil)))) ds_nil)
    (ds_cons (ds_if (dt_cmp (d_eq (have z := D2.Room.eqs hr; z)) (dv 0) d_int rfl) (ds_one (ds_ret (d_lst false (da_cons (de_xf hz hf (dv 2)) (da_cons (de_xf hz hf (dv 2)) da_nil))))) ds_nil)
    (ds_cons (ds_if (dt_cmp (d_eq (have z := D2.Room.eqs hr; z)) (dv 0) d_int rfl) (ds_one (ds_ret (d_lst false (da_cons (de_xf hz hf (dv 2)) (da_cons (de_xf hz hf (dv 2)) da_nil))))) ds_nil)
    (ds_one (ds_if (dt_cmp (d_eq (have z := D2.Room.eqs hr; z)) (dv 0) d_int rfl) (ds_one (ds_ret (d_lst false (da_cons (de_xf hz hf (dv 2)) (da_cons (de_xf hz hf (dv 2)) (da_cons (de_xf hz hf (dv 2)) da_nil)))))) ds_nil))))))))))
    (ds_one (ds_ret (d_lst false da_nil))))
theorem mk_kept {f : Addr} {fd : FuncData} (F : FunD K "_law_kept" "_law_kept" (defArgs s_kept) (defBody s_kept) (defScope s_kept) [] [] f fd) (hm : mg "_law_kept" = some (.ref f)) (G : Gs K mg) (U : Xs P w K mg base) (C_raised : Fn2 P w K mg base 4 "_law_raised" ["k", "things"] (sp_raised K)) (len : ∀ ds μ q e, sp_kept K ds μ q e → ds.length = 2)
    (law : ∀ ds μ q e, sp_kept K ds μ q e → t_kept K { nx := fun _ μ => q .non μ, rt := q, ex := fun c fs _ μ => e c fs μ } (start2 ["k", "things", "e"] ds) μ) : Fn2 P w K mg base 5 "_law_kept" ["k", "things"] (sp_kept K) :=
  fnD_mk F hm (F.bindsN fun _ _ _ _ _ _ us hl => match us, hl with | [_, _], _ => rfl) (fnD F sc_kept len (dv_kept G U C_raised) law)
def df_kept : He.DefD := ⟨("_law_kept", none), "_law_kept", "_law_kept", defArgs s_kept, defBody s_kept, defScope s_kept, [], []⟩
abbrev s_law : Stmt := top 30
theorem sc_law : FnScope ["script", "k", "things", "one"] ["script"] (defScope s_law) := ⟨rfl, rfl, rfl, by decide +kernel, rfl, by decide +kernel, by decide +kernel⟩
def t_law (K : PySem.W.Frag) : TS2 :=
  (rSeq (rFor (iterR (rCons (rCon (.int 20)) rNil)) (.nm 1)
    (rSeq (rSet 2 (rCall (sp_things K) (rCons (rCall (sp_cell K) (rCons (rVar 0) (rCons (rVar 1) rNil))) (rCons (rVar 1) rNil))))
    (rSeq (rIfS (rTest (rOp (eqR true) (rCall (sp_kinds K) (rCons (rVar 1) (rCons (rVar 2) rNil))) (rOp (addD false) (rComp false (iterR (rCons (rCon (.int 20)) rNil)) (.nm 3) [3] rYes (rOp (eqR false) (rVar 3) (rVar 1))) (rLst false (rCons (rCon (.bl true)) rNil))))) (rRet (rCon (.bl false))) rNext)
    (rIfS (rTest (rOp (eqR true) (rCall (sp_kept K) (rCons (rVar 1) (rCons (rVar 2) rNil))) (rVar 2))) (rRet (rCon (.bl false))) rNext))))
    (rRet (rCon (.bl true))))
theorem dv_law (G : Gs K mg) (U : Xs P w K mg base) (C_things : Fn2 P w K mg base 2 "_law_things" ["cell", "k"] (sp_things K)) (C_cell : Fn2 P w K mg base 1 "_law_cell" ["script", "k"] (sp_cell K)) (C_kinds : Fn2 P w K mg base 5 "_law_kinds" ["k", "things"] (sp_kinds K)) (C_kept : Fn2 P w K mg base 5 "_law_kept" ["k", "things"] (sp_kept K)) {f : Addr} : ∀ (cdv : Value) (A : Around) (outer : List Env) (s : Shared) (H : Hp) (E : XK), Room 5 (A.deeper (envOfC "law" (defScope s_law) s.heap.objs.size f cdv)) →
    DSs (cxOf (L2.CX P w) P w K mg base ["script", "k", "things", "one"] "law" (defScope s_law) f cdv A outer s H E) (WF E) (defBody s_law) (t_law K) := fun cdv A outer s H E hr =>
  (ds_cons (ds_for (passes_of rfl) rfl (di_range rfl G.b_range (da_cons d_int da_nil)) (dg_nm sc_law.nd rfl (Or.inr rfl))
    (ds_cons (ds_set (i := 2) sc_law.nd rfl (Or.inl rfl) (d_call C_things (hr.mono (by decide)) rfl takes_fn (da_cons (d_call C_cell (hr.mono (by decide)) rfl takes_fn (da_cons (dv 0) (da_cons (dv 1) da_nil))) (da_cons (dv 1) da_nil))))
    (ds_cons (ds_if (dt_cmp (d_ne (D2.Room.eqs hr)) (d_call C_kinds (hr.mono (by decide)) rfl takes_fn (da_cons (dv 1) (da_cons (dv 2) da_nil))) (d_op (d_add false) (d_comp (own := [("one", 3)]) false rfl sc_law.nd (di_range rfl G.b_range (da_cons d_int da_nil)) (blk_ok) (fun _ _ _ _ _ => (dg_nm sc_law.nd rfl (Or.inl rfl))) (fun _ _ _ _ _ => dts_nil) (fun _ _ _ _ _ => (d_cmp (d_eq (D2.Room.eqs hr)) (dv 3) (dv 1) rfl)) (by decide)) (d_lst false (da_cons d_bl da_nil))) rfl) (ds_one (ds_ret d_bl)) ds_nil)
    (ds_one (ds_if (dt_cmp (d_ne (D2.Room.eqs hr)) (d_call C_kept (hr.mono (by decide)) rfl takes_fn (da_cons (dv 1) (da_cons (dv 2) da_nil))) (dv 2) rfl) (ds_one (ds_ret d_bl)) ds_nil)))))
    (ds_one (ds_ret d_bl)))
theorem mk_law {f : Addr} {fd : FuncData} (F : FunD K "law" "law" (defArgs s_law) (defBody s_law) (defScope s_law) [] [] f fd) (hm : mg "law" = some (.ref f)) (G : Gs K mg) (U : Xs P w K mg base) (C_things : Fn2 P w K mg base 2 "_law_things" ["cell", "k"] (sp_things K)) (C_cell : Fn2 P w K mg base 1 "_law_cell" ["script", "k"] (sp_cell K)) (C_kinds : Fn2 P w K mg base 5 "_law_kinds" ["k", "things"] (sp_kinds K)) (C_kept : Fn2 P w K mg base 5 "_law_kept" ["k", "things"] (sp_kept K)) (len : ∀ ds μ q e, sp_law K ds μ q e → ds.length = 1)
    (law : ∀ ds μ q e, sp_law K ds μ q e → t_law K { nx := fun _ μ => q .non μ, rt := q, ex := fun c fs _ μ => e c fs μ } (start2 ["script", "k", "things", "one"] ds) μ) : Fn2 P w K mg base 6 "law" ["script"] (sp_law K) :=
  fnD_mk F hm (F.bindsN fun _ _ _ _ _ _ us hl => match us, hl with | [_], _ => rfl) (fnD F sc_law len (dv_law G U C_things C_cell C_kinds C_kept) law)
def df_law : He.DefD := ⟨("law", none), "law", "law", defArgs s_law, defBody s_law, defScope s_law, [], []⟩
end
end K18

set_option Elab.async false
set_option linter.all false
set_option maxRecDepth 100000
set_option maxHeartbeats 4000000
local macro_rules | `(tactic| walk_at "d2") => `(tactic| simp only [D2.start2, List.map_cons, List.map_nil, List.length_cons, List.length_nil, List.replicate, List.cons_append, List.nil_append, List.set_cons_zero, List.set_cons_succ, List.getElem?_cons_zero, List.getElem?_cons_succ, true_and, and_true, Bool.false_eq_true, if_false, if_true, Bool.not_true, Bool.not_false, decide_true, decide_false, D2.e_var, D2.e_var0, D2.e_varS, D2.e_con, D2.e_nil, D2.e_cons, D2.e_tup, D2.e_lst, D2.e_newF, D2.e_newT, D2.e_op, D2.e_test, D2.e_andT, D2.e_orT, D2.e_notT, D2.e_andV, D2.e_orV, D2.e_notV, D2.e_if, D2.e_add_i, D2.e_add_s, D2.e_add_t, D2.e_add_l, D2.e_add_r, D2.e_int2, D2.e_int0, D2.e_mul_i, D2.e_mul_s, D2.e_sl, D2.e_nopart, D2.e_part, D2.e_sl_s, D2.e_sl_t, D2.e_sl_l, D2.e_sl_a, D2.e_sl_r, D2.e_cb, D2.e_call, D2.e_call0, D2.e_len_s, D2.e_len_t, D2.e_len_l, D2.e_len_a, D2.e_len_r, D2.e_intC_i, D2.e_intC_b, D2.e_strC, D2.e_absC, D2.e_maxC, D2.e_minC, D2.e_listC_l, D2.e_listC_t, D2.e_listC_a, D2.e_tupC_l, D2.e_tupC_t, D2.e_isi_ty, D2.e_isi_non, D2.e_isi_str, D2.e_isi_int, D2.e_isi_bl, D2.e_isi_tup, D2.e_isi_lst, D2.e_eq_s, D2.e_eq_i, D2.e_eq_b, D2.e_eq_ns, D2.e_eq_sn, D2.e_eq_t, D2.e_eq_l, D2.e_eq_rl, D2.e_in_s, D2.e_in_t, D2.e_in_l, D2.e_is_b, D2.e_is_nn, D2.e_is_sn, D2.e_is_in, D2.e_is_tn, D2.e_is_ln, D2.e_is_rn, D2.e_is_bn, D2.e_lm, D2.e_lm0, D2.e_isL, D2.e_append, D2.e_extend_l, D2.e_pop, D2.e_sm, D2.e_join_l, D2.e_join_r, D2.e_iterL, D2.e_iterT, D2.e_iterS, D2.e_iterR, D2.e_seq_l, D2.e_seq_a, D2.e_seq_r, D2.e_stay_l, D2.e_stay_a, D2.e_bind1, D2.e_bind2, D2.e_bind3, D2.e_bind4, D2.e_ix_s, D2.e_ix_t, D2.e_ix_l, D2.e_ix_a, D2.e_ix_r, D2.e_neg, D2.e_negI, D2.e_seq, D2.e_next, D2.e_break, D2.e_cont, D2.e_drop, D2.e_ret, D2.e_retN, D2.e_ifS, D2.e_set, D2.e_asg, D2.e_raise, D2.e_raise0, D2.e_for, D2.e_while, D2.e_try, D2.e_comp, D2.e_yes, D2.e_wipe0, D2.e_wipeS, D2.e_xf])

namespace K18
open PySem PySem.Spec PyProof.Rows L2 D2
section
variable {K : PySem.W.Frag}
theorem cases20 {k : Nat} (h : k < 20) {M : Nat → Prop} (h0 : M 0) (h1 : M 1) (h2 : M 2) (h3 : M 3) (h4 : M 4) (h5 : M 5) (h6 : M 6) (h7 : M 7) (h8 : M 8) (h9 : M 9) (h10 : M 10) (h11 : M 11) (h12 : M 12) (h13 : M 13) (h14 : M 14) (h15 : M 15) (h16 : M 16) (h17 : M 17) (h18 : M 18) (h19 : M 19) : M k := by
  rcases (by omega : k = 0 ∨ k = 1 ∨ k = 2 ∨ k = 3 ∨ k = 4 ∨ k = 5 ∨ k = 6 ∨ k = 7 ∨ k = 8 ∨ k = 9 ∨ k = 10 ∨ k = 11 ∨ k = 12 ∨ k = 13 ∨ k = 14 ∨ k = 15 ∨ k = 16 ∨ k = 17 ∨ k = 18 ∨ k = 19) with rfl | rfl | rfl | rfl | rfl | rfl | rfl | rfl | rfl | rfl | rfl | rfl | rfl | rfl | rfl | rfl | rfl | rfl | rfl | rfl <;> assumption
theorem law_cell (ds : List D) (μ : Mu) (q : Q2) (e) (h : sp_cell K ds μ q e) : t_cell K { nx := fun _ μ => q .non μ, rt := q, ex := fun c fs _ μ => e c fs μ } (start2 ["script", "k"] ds) μ := by
  obtain ⟨xs, k, rfl, hk, hq⟩ := h
  unfold t_cell
  walk_at "d2"
  split
  · rename_i hc
    obtain ⟨d, e1, e2⟩ := atI_some (xs := xs.map D.int) (i := k) (by omega) (of_decide_eq_true hc)
    rw [e1]
    obtain ⟨x, _, rfl⟩ := List.mem_map.mp (List.mem_of_getElem? e2)
    exact hq _
  · exact ⟨.inl ⟨by omega, by omega⟩, .inr ⟨by omega, by omega⟩, hq _⟩
theorem law_word (ds : List D) (μ : Mu) (q : Q2) (e) (h : sp_word K ds μ q e) : t_word K { nx := fun _ μ => q .non μ, rt := q, ex := fun c fs _ μ => e c fs μ } (start2 ["cell", "letters", "word", "k"] ds) μ := by
  obtain ⟨c, rfl, hq⟩ := h
  unfold t_word
  walk_at "d2"
  have hb : 0 ≤ c % 8 ∧ c % 8 < 8 := by omega
  refine ⟨by omega, by omega, fun i δ' μ' => μ' = μ ∧ i ≤ 8 ∧ ∃ (wd : List Nat) (x : Option D), wd.length = i ∧ wd.all (· < 0x110000) = true ∧ δ' = [some (.int c), some (.str [97, 98, 99, 100, 101, 102, 103, 104, 105, 106, 107, 108, 109, 110, 111, 112, 113, 114, 115, 116, 117, 118, 119, 120, 121, 122]), some (.str wd), x],
    ⟨rfl, by omega, [], _, rfl, rfl, rfl⟩, fun _ _ _ _ => trivial, ?_, ?_⟩
  · rintro i d δ' μ' hd ⟨rfl, hi, wd, x, hw, ha, rfl⟩
    obtain ⟨rfl, hi2⟩ := intsD_get hd
    walk_at "d2"
    have hi3 : i < 8 := by omega
    obtain ⟨ch, e1, e2⟩ := atI_some (xs := [97, 98, 99, 100, 101, 102, 103, 104, 105, 106, 107, 108, 109, 110, 111, 112, 113, 114, 115, 116, 117, 118, 119, 120, 121, 122]) (i := (c / 8 + 5 * (i : Int) * (i : Int)) % 26) (by omega) (by show _ < (26 : Int); omega)
    rw [e1]
    have hch : ch < 0x110000 := by
      have : ∀ y ∈ ([97, 98, 99, 100, 101, 102, 103, 104, 105, 106, 107, 108, 109, 110, 111, 112, 113, 114, 115, 116, 117, 118, 119, 120, 121, 122] : List Nat), y < 0x110000 := by decide
      exact this ch (List.mem_of_getElem? e2)
    refine ⟨⟨by omega, by decide +kernel⟩, .inl ⟨by omega, by omega⟩, .inr ⟨by omega, by omega⟩, by omega, by rw [sizeLine_eq]; decide, ?_, by omega, wd ++ [ch], some (.int i), by simp [hw], by simp [ha, hch], rfl⟩
    rw [hw, sizeLine_eq]; simp; omega
  · rintro δ' μ' ⟨rfl, hi, wd, x, hw, ha, rfl⟩
    walk_at "d2"
    exact hq wd (by omega) ha
theorem law_things (ds : List D) (μ : Mu) (q : Q2) (e) (h : sp_things K ds μ q e) : t_things K { nx := fun _ μ => q .non μ, rt := q, ex := fun c fs _ μ => e c fs μ } (start2 ["cell", "k", "number", "name", "ring", "place"] ds) μ := by
  obtain ⟨c, k, rfl, hk, hq⟩ := h
  obtain ⟨N, hN, eN⟩ := pow_some (i := 10) (j := 60) (by unfold CPow; decide) (by decide)
  unfold t_things
  simp only [eN]
  walk_at "d2"
  refine ⟨hN, c + k, rfl, fun wd hw ha => ⟨⟨by decide, by decide +kernel⟩, c / 3 + 7, rfl, fun wd2 hw2 ha2 => ⟨by decide, by decide, ⟨by decide, by decide +kernel⟩, by decide, by decide, ?_⟩⟩⟩
  have o1 : okD 59 (.str wd) = true := by rw [okD_str]; exact ha
  have o2 : okD 59 (.str wd2) = true := by rw [okD_str]; exact ha2
  have cut1 : c % 2 = 0 → ∀ {α : Type} (x y : α), cutL [x, y] none (some (1 + c % 2)) = [x] := fun h α x y => by rw [h]; rfl
  have cut2 : c % 2 = 1 → ∀ {α : Type} (x y : α), cutL [x, y] none (some (1 + c % 2)) = [x, y] := fun h α x y => by rw [h]; rfl
  have hc : c % 2 = 0 ∨ c % 2 = 1 := by omega
  split
  · rename_i h1; have h1 := of_decide_eq_true h1
    exact hq _ ⟨by unfold fnm; rw [if_pos (by omega)]; rfl, by simp [okL, okD]⟩
  split
  · rename_i h0 h1; have h0 : ¬ (k : Int) < 5 := fun z => h0 (decide_eq_true z); have h1 := of_decide_eq_true h1
    exact hq _ ⟨by unfold fnm; rw [if_neg (by omega), if_pos (by omega)]; rfl, by simp [okL, okD_str, ha]⟩
  split
  · rename_i h1; have h1 := of_decide_eq_true h1; obtain rfl : k = 11 := by omega
    refine hq _ ⟨rfl, ?_⟩
    rcases hc with hc | hc
    · rw [cut1 hc]; simp [okL, okD, okD_str, ha]
    · rw [cut2 hc]; simp [okL, okD, okD_str, ha, ha2]
  split
  · rename_i h1; have h1 := of_decide_eq_true h1; obtain rfl : k = 12 := by omega
    rcases hc with hc | hc
    · rw [cut1 hc]
      refine ⟨by decide, ?_⟩
      rw [cut1 hc]
      refine hq _ ⟨rfl, ?_⟩
      simp [okL, okD, okD_str, ha]
    · rw [cut2 hc]
      refine ⟨by decide, ?_⟩
      rw [cut2 hc]
      refine hq _ ⟨rfl, ?_⟩
      simp [okL, okD, okD_str, ha, ha2]
  split
  · rename_i h1; have h1 := of_decide_eq_true h1; obtain rfl : k = 13 := by omega
    exact hq _ ⟨rfl, by simp [okL, okD, okD_str]⟩
  split
  · rename_i h1; have h1 := of_decide_eq_true h1; obtain rfl : k = 14 := by omega
    exact hq _ ⟨rfl, by simp [okL, okD, okD_str]⟩
  split
  · rename_i h1; have h1 := of_decide_eq_true h1; obtain rfl : k = 15 := by omega
    exact hq _ ⟨rfl, by simp [okL, okD, okD_str, ha]⟩
  split
  · rename_i h1; have h1 := of_decide_eq_true h1; obtain rfl : k = 16 := by omega
    exact ⟨by decide, by decide, hq _ ⟨rfl, by simp [okL, okD, okD_str, ha]⟩⟩
  · rename_i a1 a2 a3 a4 a5 a6 a7 a8
    have b1 : ¬ (k : Int) < 5 := fun z => a1 (decide_eq_true z)
    have b2 : ¬ (k : Int) < 11 := fun z => a2 (decide_eq_true z)
    have b3 : ¬ (k : Int) = 11 := fun z => a3 (decide_eq_true z)
    have b4 : ¬ (k : Int) = 12 := fun z => a4 (decide_eq_true z)
    have b5 : ¬ (k : Int) = 13 := fun z => a5 (decide_eq_true z)
    have b6 : ¬ (k : Int) = 14 := fun z => a6 (decide_eq_true z)
    have b7 : ¬ (k : Int) = 15 := fun z => a7 (decide_eq_true z)
    have b8 : ¬ (k : Int) = 16 := fun z => a8 (decide_eq_true z)
    refine hq _ ⟨?_, by simp [okL]⟩
    rcases (by omega : k = 17 ∨ k = 18 ∨ k = 19) with rfl | rfl | rfl <;> rfl
theorem th1 {k : Nat} {ts : List D} (h : Th k ts) (e : (fnm k).length = 1) : ∃ x, ts = [x] := by
  have := h.1; rw [e] at this
  match ts, this with
  | [x], _ => exact ⟨x, rfl⟩
theorem th2 {k : Nat} {ts : List D} (h : Th k ts) (e : (fnm k).length = 2) : ∃ x y, ts = [x, y] := by
  have := h.1; rw [e] at this
  match ts, this with
  | [x, y], _ => exact ⟨x, y, rfl⟩
theorem th3 {k : Nat} {ts : List D} (h : Th k ts) (e : (fnm k).length = 3) : ∃ x y z, ts = [x, y, z] := by
  have := h.1; rw [e] at this
  match ts, this with
  | [x, y, z], _ => exact ⟨x, y, z, rfl⟩
theorem th0 {k : Nat} {ts : List D} (h : Th k ts) (e : (fnm k).length = 0) : ts = [] := by
  have := h.1; rw [e] at this
  exact List.length_eq_zero_iff.mp this
theorem law_first (ds : List D) (μ : Mu) (q : Q2) (e) (h : sp_first K ds μ q e) : t_first K { nx := fun _ μ => q .non μ, rt := q, ex := fun c fs _ μ => e c fs μ } (start2 ["k", "things"] ds) μ := by
  obtain ⟨k, ts, rfl, hk, ht, he⟩ := h
  obtain ⟨x, rfl⟩ := th1 ht (by rcases (by omega : k = 0 ∨ k = 1 ∨ k = 2 ∨ k = 3 ∨ k = 4 ∨ k = 5 ∨ k = 6 ∨ k = 7 ∨ k = 8 ∨ k = 9 ∨ k = 10) with rfl | rfl | rfl | rfl | rfl | rfl | rfl | rfl | rfl | rfl | rfl <;> rfl)
  unfold t_first
  walk_at "d2"
  rcases (by omega : k = 0 ∨ k = 1 ∨ k = 2 ∨ k = 3 ∨ k = 4 ∨ k = 5 ∨ k = 6 ∨ k = 7 ∨ k = 8 ∨ k = 9 ∨ k = 10) with rfl | rfl | rfl | rfl | rfl | rfl | rfl | rfl | rfl | rfl | rfl <;> exact he
theorem law_raised (ds : List D) (μ : Mu) (q : Q2) (e) (h : sp_raised K ds μ q e) : t_raised K { nx := fun _ μ => q .non μ, rt := q, ex := fun c fs _ μ => e c fs μ } (start2 ["k", "things"] ds) μ := by
  obtain ⟨k, ts, rfl, hk, ht, he⟩ := h
  unfold t_raised
  walk_at "d2"
  by_cases h1 : k < 11
  · rw [if_pos (decide_eq_true (by omega))]
    exact ⟨k, ts, rfl, h1, ht, he⟩
  · rw [if_neg (fun z => absurd (of_decide_eq_true z) (by omega))]
    rcases (by omega : k = 11 ∨ k = 12 ∨ k = 13 ∨ k = 14 ∨ k = 15 ∨ k = 16 ∨ k = 17 ∨ k = 18 ∨ k = 19) with rfl | rfl | rfl | rfl | rfl | rfl | rfl | rfl | rfl
    · obtain ⟨x, rfl⟩ := th1 ht rfl; exact he
    · obtain ⟨x, rfl⟩ := th1 ht rfl; exact he
    · obtain ⟨x, rfl⟩ := th1 ht rfl; exact he
    · obtain ⟨x, y, rfl⟩ := th2 ht rfl; exact he
    · obtain ⟨x, y, rfl⟩ := th2 ht rfl; exact he
    · obtain ⟨x, y, z, rfl⟩ := th3 ht rfl; exact he
    · exact he
    · exact he
    · exact he
end
end K18

set_option Elab.async false
set_option linter.all false
set_option maxRecDepth 100000
set_option maxHeartbeats 4000000
local macro_rules | `(tactic| walk_at "d2") => `(tactic| simp only [D2.start2, List.map_cons, List.map_nil, List.length_cons, List.length_nil, List.replicate, List.cons_append, List.nil_append, List.set_cons_zero, List.set_cons_succ, List.getElem?_cons_zero, List.getElem?_cons_succ, true_and, and_true, Bool.false_eq_true, if_false, if_true, Bool.not_true, Bool.not_false, decide_true, decide_false, D2.e_var, D2.e_var0, D2.e_varS, D2.e_con, D2.e_nil, D2.e_cons, D2.e_tup, D2.e_lst, D2.e_newF, D2.e_newT, D2.e_op, D2.e_test, D2.e_andT, D2.e_orT, D2.e_notT, D2.e_andV, D2.e_orV, D2.e_notV, D2.e_if, D2.e_add_i, D2.e_add_s, D2.e_add_t, D2.e_add_l, D2.e_add_r, D2.e_int2, D2.e_int0, D2.e_mul_i, D2.e_mul_s, D2.e_sl, D2.e_nopart, D2.e_part, D2.e_sl_s, D2.e_sl_t, D2.e_sl_l, D2.e_sl_a, D2.e_sl_r, D2.e_cb, D2.e_call, D2.e_call0, D2.e_len_s, D2.e_len_t, D2.e_len_l, D2.e_len_a, D2.e_len_r, D2.e_intC_i, D2.e_intC_b, D2.e_strC, D2.e_absC, D2.e_maxC, D2.e_minC, D2.e_listC_l, D2.e_listC_t, D2.e_listC_a, D2.e_tupC_l, D2.e_tupC_t, D2.e_isi_ty, D2.e_isi_non, D2.e_isi_str, D2.e_isi_int, D2.e_isi_bl, D2.e_isi_tup, D2.e_isi_lst, D2.e_eq_s, D2.e_eq_i, D2.e_eq_b, D2.e_eq_ns, D2.e_eq_sn, D2.e_eq_t, D2.e_eq_l, D2.e_eq_rl, D2.e_in_s, D2.e_in_t, D2.e_in_l, D2.e_is_b, D2.e_is_nn, D2.e_is_sn, D2.e_is_in, D2.e_is_tn, D2.e_is_ln, D2.e_is_rn, D2.e_is_bn, D2.e_lm, D2.e_lm0, D2.e_isL, D2.e_append, D2.e_extend_l, D2.e_pop, D2.e_sm, D2.e_join_l, D2.e_join_r, D2.e_iterL, D2.e_iterT, D2.e_iterS, D2.e_iterR, D2.e_seq_l, D2.e_seq_a, D2.e_seq_r, D2.e_stay_l, D2.e_stay_a, D2.e_bind1, D2.e_bind2, D2.e_bind3, D2.e_bind4, D2.e_ix_s, D2.e_ix_t, D2.e_ix_l, D2.e_ix_a, D2.e_ix_r, D2.e_neg, D2.e_negI, D2.e_seq, D2.e_next, D2.e_break, D2.e_cont, D2.e_drop, D2.e_ret, D2.e_retN, D2.e_ifS, D2.e_set, D2.e_asg, D2.e_raise, D2.e_raise0, D2.e_for, D2.e_while, D2.e_try, D2.e_comp, D2.e_yes, D2.e_wipe0, D2.e_wipeS, D2.e_xf])

namespace K18
open PySem PySem.Spec PyProof.Rows L2 D2
section
variable {K : PySem.W.Frag}
def flds : List Str := ["at", "name", "ring", "place", "what", "one", "other"]
theorem fold_isx (B : ExAll "SealError" cl flds K) {a : Addr} {d : Option Addr} {c : Value} {ns : List Str} {es : List D} {μ : Mu} {q : Q2} (x y : Str) (hx : x ∈ cl) (hy : y ∈ cl) :
    isxC K a d (.ref (He.ga K x)) [.exn a d c ns es, .opq (.ref (He.ga K y))] μ q = q (.bl (decide (x = y))) μ := isx_go (B.exc x hx) (B.kit x hx y hy)
theorem fold_isxV (B : ExAll "SealError" cl flds K) {a : Addr} {d : Option Addr} {c : Value} {ns : List Str} {es : List D} {μ : Mu} {q : Q2} (x : Str) (hx : x ∈ cl) :
    isxC K a d (.ref (He.ga K x)) [.exn a d c ns es, .opq (.ty "ValueError")] μ q = q (.bl true) μ := isx_goT (B.exc x hx) (B.kitV x hx)
theorem cl_mem {k : Nat} (h : k < 20) : cn k ∈ cl := by
  unfold cn
  rw [List.getD_eq_getElem?_getD, List.getElem?_eq_getElem (show k < cl.length from h)]
  exact List.getElem_mem _
theorem law_kinds (B : ExAll "SealError" cl flds K) (ds : List D) (μ : Mu) (q : Q2) (e) (h : sp_kinds K ds μ q e) : t_kinds K { nx := fun _ μ => q .non μ, rt := q, ex := fun c fs _ μ => e c fs μ } (start2 ["k", "things", "e", "some"] ds) μ := by
  obtain ⟨k, ts, rfl, hk, ht, hq⟩ := h
  have m1 : ∀ y ∈ cl, ∀ {a : Addr} {d : Option Addr} {c : Value} {ns : List Str} {es : List D} {μ : Mu} {q : Q2}, isxC K a d (.ref (He.ga K (cn k))) [.exn a d c ns es, .opq (.ref (He.ga K y))] μ q = q (.bl (decide (cn k = y))) μ := fun y hy {a d c ns es μ q} => fold_isx B _ _ (cl_mem hk) hy
  have m2 : ∀ {a : Addr} {d : Option Addr} {c : Value} {ns : List Str} {es : List D} {μ : Mu} {q : Q2}, isxC K a d (.ref (He.ga K (cn k))) [.exn a d c ns es, .opq (.ty "ValueError")] μ q = q (.bl true) μ := fun {a d c ns es μ q} => fold_isxV B _ (cl_mem hk)
  unfold t_kinds
  walk_at "d2"
  refine ⟨k, ts, rfl, hk, ht, true, B.exm _ (cl_mem hk), fun _ a d => ?_, fun z => by cases z⟩
  have n0 := @m1 "NoSign" (by decide +kernel)
  have n1 := @m1 "NoCode" (by decide +kernel)
  have n2 := @m1 "Unread" (by decide +kernel)
  have n3 := @m1 "NoPage" (by decide +kernel)
  have n4 := @m1 "NoSheet" (by decide +kernel)
  have n5 := @m1 "NoName" (by decide +kernel)
  have n6 := @m1 "Twice" (by decide +kernel)
  have n7 := @m1 "Unknown" (by decide +kernel)
  have n8 := @m1 "NoElder" (by decide +kernel)
  have n9 := @m1 "NoValue" (by decide +kernel)
  have n10 := @m1 "NoKind" (by decide +kernel)
  have n11 := @m1 "RingOver" (by decide +kernel)
  have n12 := @m1 "Ringed" (by decide +kernel)
  have n13 := @m1 "LeftOpen" (by decide +kernel)
  have n14 := @m1 "Astray" (by decide +kernel)
  have n15 := @m1 "NoPlace" (by decide +kernel)
  have n16 := @m1 "Unlike" (by decide +kernel)
  have n17 := @m1 "Unended" (by decide +kernel)
  have n18 := @m1 "TooMany" (by decide +kernel)
  have n19 := @m1 "NoRow" (by decide +kernel)
  simp only [n0, n1, n2, n3, n4, n5, n6, n7, n8, n9, n10, n11, n12, n13, n14, n15, n16, n17, n18, n19, m2]
  have hl : ∀ n : Nat, n ≤ 100 → n ≤ sizeLine := fun n h => by rw [sizeLine_eq]; omega
  refine ⟨hl _ (by decide), hl _ (by decide), hl _ (by decide), hl _ (by decide), hl _ (by decide), ?_⟩
  rcases (by omega : k = 0 ∨ k = 1 ∨ k = 2 ∨ k = 3 ∨ k = 4 ∨ k = 5 ∨ k = 6 ∨ k = 7 ∨ k = 8 ∨ k = 9 ∨ k = 10 ∨ k = 11 ∨ k = 12 ∨ k = 13 ∨ k = 14 ∨ k = 15 ∨ k = 16 ∨ k = 17 ∨ k = 18 ∨ k = 19) with rfl | rfl | rfl | rfl | rfl | rfl | rfl | rfl | rfl | rfl | rfl | rfl | rfl | rfl | rfl | rfl | rfl | rfl | rfl | rfl <;> exact hq
theorem xf_var {a : Addr} {d : Option Addr} {C : Addr} {f : Str} {c : Value} {ns : List Str} {es : List D} {v : D} {δ : S2} {μ : Mu} {q : Q2} {w : W2} {i : Nat} (hC : ExcC K C) (hf : PySem.W.findIn K (.ref C) f = some none)
    (he : δ[i]? = some (some (.exn a d c ns es))) (hl : (ns.zip es).lookup f = some v) (h : q v μ) : rXf K a d (.ref C) f (rVar i) δ μ q w := by
  unfold rXf
  rw [e_var he]
  refine ⟨⟨rfl, rfl⟩, ⟨C, rfl, hC, hf⟩, ?_⟩
  rw [hl]
  exact h
theorem law_kept (B : ExAll "SealError" cl flds K) (ds : List D) (μ : Mu) (q : Q2) (e) (h : sp_kept K ds μ q e) : t_kept K { nx := fun _ μ => q .non μ, rt := q, ex := fun c fs _ μ => e c fs μ } (start2 ["k", "things", "e"] ds) μ := by
  obtain ⟨k, ts, rfl, hk, ht, hq⟩ := h
  have hno : ∀ f ∈ flds, PySem.W.findIn K (.ref (He.ga K (cn k))) f = some none := fun f hf => B.no _ (cl_mem hk) f hf
  have hC := B.exc _ (cl_mem hk)
  have f1 := hno "at" (by decide +kernel)
  have f2 := hno "name" (by decide +kernel)
  have f3 := hno "ring" (by decide +kernel)
  have f4 := hno "place" (by decide +kernel)
  have f5 := hno "what" (by decide +kernel)
  have f6 := hno "one" (by decide +kernel)
  have f7 := hno "other" (by decide +kernel)
  unfold t_kept
  walk_at "d2"
  refine ⟨k, ts, rfl, hk, ht, true, B.exm _ (cl_mem hk), fun _ a d => ?_, fun z => by cases z⟩
  by_cases b1 : k < 5
  · rw [if_pos (decide_eq_true (by omega))]
    rcases (by omega : k = 0 ∨ k = 1 ∨ k = 2 ∨ k = 3 ∨ k = 4) with rfl | rfl | rfl | rfl | rfl <;> (obtain ⟨x, rfl⟩ := th1 ht rfl; exact xf_var hC f1 rfl rfl hq)
  rw [if_neg (fun z => absurd (of_decide_eq_true z) (by omega))]
  by_cases b2 : k < 11
  · rw [if_pos (decide_eq_true (by omega))]
    rcases (by omega : k = 5 ∨ k = 6 ∨ k = 7 ∨ k = 8 ∨ k = 9 ∨ k = 10) with rfl | rfl | rfl | rfl | rfl | rfl <;> (obtain ⟨x, rfl⟩ := th1 ht rfl; exact xf_var hC f2 rfl rfl hq)
  rw [if_neg (fun z => absurd (of_decide_eq_true z) (by omega))]
  by_cases b3 : k < 13
  · rw [if_pos (decide_eq_true (by omega))]
    rcases (by omega : k = 11 ∨ k = 12) with rfl | rfl <;> (obtain ⟨x, rfl⟩ := th1 ht rfl; exact xf_var hC f3 rfl rfl hq)
  rw [if_neg (fun z => absurd (of_decide_eq_true z) (by omega))]
  by_cases b4 : k = 13
  · rw [if_pos (decide_eq_true (by omega))]
    subst b4; obtain ⟨x, rfl⟩ := th1 ht rfl; exact xf_var hC f4 rfl rfl hq
  rw [if_neg (fun z => absurd (of_decide_eq_true z) (by omega))]
  by_cases b5 : k = 14
  · rw [if_pos (decide_eq_true (by omega))]
    subst b5; obtain ⟨x, y, rfl⟩ := th2 ht rfl; exact xf_var hC f4 rfl rfl (xf_var hC f1 rfl rfl hq)
  rw [if_neg (fun z => absurd (of_decide_eq_true z) (by omega))]
  by_cases b6 : k = 15
  · rw [if_pos (decide_eq_true (by omega))]
    subst b6; obtain ⟨x, y, rfl⟩ := th2 ht rfl; exact xf_var hC f2 rfl rfl (xf_var hC f4 rfl rfl hq)
  rw [if_neg (fun z => absurd (of_decide_eq_true z) (by omega))]
  by_cases b7 : k = 16
  · rw [if_pos (decide_eq_true (by omega))]
    subst b7; obtain ⟨x, y, z, rfl⟩ := th3 ht rfl; exact xf_var hC f5 rfl rfl (xf_var hC f6 rfl rfl (xf_var hC f7 rfl rfl hq))
  rw [if_neg (fun z => absurd (of_decide_eq_true z) (by omega))]
  rcases (by omega : k = 17 ∨ k = 18 ∨ k = 19) with rfl | rfl | rfl <;> (obtain rfl := th0 ht rfl; exact hq)
theorem law_law (ds : List D) (μ : Mu) (q : Q2) (e) (h : sp_law K ds μ q e) : t_law K { nx := fun _ μ => q .non μ, rt := q, ex := fun c fs _ μ => e c fs μ } (start2 ["script", "k", "things", "one"] ds) μ := by
  obtain ⟨xs, rfl, hq⟩ := h
  have hl : ∀ n : Nat, n ≤ 100 → n ≤ sizeLine := fun n h => by rw [sizeLine_eq]; omega
  unfold t_law
  walk_at "d2"
  refine ⟨⟨by decide, by decide⟩, fun i δ' μ' => μ' = μ ∧ ∃ x y z, δ' = [some (.arg (xs.map .int)), x, y, z], ⟨rfl, _, _, _, rfl⟩, fun _ _ _ _ => trivial, ?_, fun _ _ h => by rw [h.1]; exact hq⟩
  rintro i d δ' μ' hd ⟨rfl, x, y, z, rfl⟩
  obtain ⟨rfl, hi⟩ := intsD_get hd
  have hi : i < 20 := hi
  walk_at "d2"
  refine ⟨xs, i, rfl, hi, fun c => ⟨c, i, rfl, hi, fun ts ht => ⟨i, ts, rfl, hi, ht, ⟨by decide, by decide⟩, ?_⟩⟩⟩
  refine ⟨fun j acc ν => ν = μ' ∧ acc = (List.range j).map (fun (j : Nat) => D.bl (decide ((i : Int) = (j : Int)))) ∧ j ≤ 20, ⟨rfl, rfl, by omega⟩, fun _ _ _ _ => trivial, ?_, ?_⟩
  · rintro j d acc μ' hj ⟨rfl, rfl, hj3⟩
    obtain ⟨rfl, hj2⟩ := intsD_get hj
    have hj2 : j < 20 := hj2
    walk_at "d2"
    refine ⟨?_, ?_, by omega⟩
    · rw [sizeLine_eq]; simp; omega
    · have : decide ((j : Int) = (i : Int)) = decide ((i : Int) = (j : Int)) := by
        by_cases h : (i : Int) = j
        · rw [h]
        · rw [decide_eq_false h, decide_eq_false (fun z => h z.symm)]
      rw [List.range_succ, List.map_append, this]
      rfl
  · rintro acc μ' ⟨rfl, rfl, _⟩
    have e20 : (intsD (Int.toNat 20)).length = 20 := intsD_len
    rw [e20]
    walk_at "d2"
    have hok : okD 64 (D.lst (List.map (fun (j : Nat) => D.bl (decide ((i : Int) = (j : Int)))) (List.range 20) ++ [D.bl true])) = true := by
      simp only [okD]
      refine okL_mem fun d hd => ?_
      rcases List.mem_append.mp hd with hd | hd
      · obtain ⟨j, _, rfl⟩ := List.mem_map.mp hd; rfl
      · rw [List.mem_singleton.mp hd]; rfl
    refine ⟨hl _ (by simp), ⟨hok, hok⟩, ?_⟩
    rw [eqD_self hok]
    walk_at "d2"
    refine ⟨i, ts, rfl, hi, ht, ?_⟩
    have hok2 : okD 64 (D.lst ts) = true := okD_le (m := 61) (D.lst ts) (by omega) (by simp only [okD]; exact ht.2)
    walk_at "d2"
    refine ⟨⟨hok2, hok2⟩, ?_⟩
    rw [eqD_self hok2]
    walk_at "d2"
    exact ⟨_, _, _, rfl⟩
end
end K18

set_option Elab.async false
set_option linter.all false
set_option maxRecDepth 100000
set_option maxHeartbeats 0
namespace K18
open PySem PySem.Spec PyProof.Rows L2 D2
def fn : List He.DefD := [df_iNoSign, df_iNoCode, df_iUnread, df_iNoPage, df_iNoName, df_iNoSheet, df_iTwice, df_iUnknown, df_iRingOver, df_iRinged, df_iNoElder, df_iAstray, df_iNoPlace, df_iUnlike, df_iLeftOpen, df_iNoValue, df_iNoKind, df_cell, df_word, df_things, df_first, df_raised, df_kinds, df_kept, df_law]
def fa : List He.Fa := [.free "ValueError", .free "abs", .free "isinstance", .free "len", .free "range", .glo "SealError", .glo "NoSign", .glo "NoCode", .glo "Unread", .glo "Unended", .glo "NoPage", .glo "NoName", .glo "NoSheet", .glo "Twice", .glo "TooMany", .glo "Unknown", .glo "RingOver", .glo "Ringed", .glo "NoElder", .glo "Astray", .glo "NoPlace", .glo "Unlike", .glo "LeftOpen", .glo "NoValue", .glo "NoKind", .glo "NoRow", .glo "_law_cell", .glo "_law_word", .glo "_law_things", .glo "_law_first", .glo "_law_raised", .glo "_law_kinds", .glo "_law_kept", .glo "law", .meth "NoSign" "__init__", .meth "NoCode" "__init__", .meth "Unread" "__init__", .meth "NoPage" "__init__", .meth "NoName" "__init__", .meth "NoSheet" "__init__", .meth "Twice" "__init__", .meth "Unknown" "__init__", .meth "RingOver" "__init__", .meth "Ringed" "__init__", .meth "NoElder" "__init__", .meth "Astray" "__init__", .meth "NoPlace" "__init__", .meth "Unlike" "__init__", .meth "LeftOpen" "__init__", .meth "NoValue" "__init__", .meth "NoKind" "__init__", .exc "SealError", .exc "Unended", .exc "TooMany", .exc "NoRow"]
def exK (K : PySem.W.Frag) : Bool := exAll "SealError" cl flds K
theorem exK_ok {K : PySem.W.Frag} (h : exK K = true) : ExAll "SealError" cl flds K := exAll_ok h
section
variable {K : PySem.W.Frag}
theorem len_cell (ds : List D) (μ : Mu) (q : Q2) (e) (h : sp_cell K ds μ q e) : ds.length = 2 := by obtain ⟨_, _, rfl, _⟩ := h; rfl
theorem len_word (ds : List D) (μ : Mu) (q : Q2) (e) (h : sp_word K ds μ q e) : ds.length = 1 := by obtain ⟨_, rfl, _⟩ := h; rfl
theorem len_things (ds : List D) (μ : Mu) (q : Q2) (e) (h : sp_things K ds μ q e) : ds.length = 2 := by obtain ⟨_, _, rfl, _⟩ := h; rfl
theorem len_first (ds : List D) (μ : Mu) (q : Q2) (e) (h : sp_first K ds μ q e) : ds.length = 2 := by obtain ⟨_, _, rfl, _⟩ := h; rfl
theorem len_raised (ds : List D) (μ : Mu) (q : Q2) (e) (h : sp_raised K ds μ q e) : ds.length = 2 := by obtain ⟨_, _, rfl, _⟩ := h; rfl
theorem len_kinds (ds : List D) (μ : Mu) (q : Q2) (e) (h : sp_kinds K ds μ q e) : ds.length = 2 := by obtain ⟨_, _, rfl, _⟩ := h; rfl
theorem len_kept (ds : List D) (μ : Mu) (q : Q2) (e) (h : sp_kept K ds μ q e) : ds.length = 2 := by obtain ⟨_, _, rfl, _⟩ := h; rfl
theorem len_law (ds : List D) (μ : Mu) (q : Q2) (e) (h : sp_law K ds μ q e) : ds.length = 1 := by obtain ⟨_, rfl, _⟩ := h; rfl
end
theorem facts {P : Program} {w : World} {K : PySem.W.Frag} {h : Heap} {mg : Str → Option Value} {f : Addr} (X : K.In h) (N : h.Ns mainGlobals mg) (hfa : mg ("law" : Str) = some (.ref f)) (c : He.SaysT fa fn [] w K) (ex : exK K = true) :
    ∃ fd : FuncData, (∀ (s : Shared) (v : Value), BindsTo s fd ⟨[v], []⟩ [("script", v)]) ∧ ∀ base : Heap, K.In base → base.Ns mainGlobals mg → FnOk P w K mg base (CXp P) 6 f fd ["script"] (liftSp K (sp_law K)) := by
  have B := exK_ok ex
  have G : Gs K mg := ⟨He.free_ok X N (c.d.fact 0 (f := .free "ValueError") rfl),
    He.free_ok X N (c.d.fact 1 (f := .free "abs") rfl),
    He.free_ok X N (c.d.fact 2 (f := .free "isinstance") rfl),
    He.free_ok X N (c.d.fact 3 (f := .free "len") rfl),
    He.free_ok X N (c.d.fact 4 (f := .free "range") rfl),
    He.glo_ok X N (c.d.fact 5 (f := .glo "SealError") rfl),
    He.glo_ok X N (c.d.fact 6 (f := .glo "NoSign") rfl),
    He.glo_ok X N (c.d.fact 7 (f := .glo "NoCode") rfl),
    He.glo_ok X N (c.d.fact 8 (f := .glo "Unread") rfl),
    He.glo_ok X N (c.d.fact 9 (f := .glo "Unended") rfl),
    He.glo_ok X N (c.d.fact 10 (f := .glo "NoPage") rfl),
    He.glo_ok X N (c.d.fact 11 (f := .glo "NoName") rfl),
    He.glo_ok X N (c.d.fact 12 (f := .glo "NoSheet") rfl),
    He.glo_ok X N (c.d.fact 13 (f := .glo "Twice") rfl),
    He.glo_ok X N (c.d.fact 14 (f := .glo "TooMany") rfl),
    He.glo_ok X N (c.d.fact 15 (f := .glo "Unknown") rfl),
    He.glo_ok X N (c.d.fact 16 (f := .glo "RingOver") rfl),
    He.glo_ok X N (c.d.fact 17 (f := .glo "Ringed") rfl),
    He.glo_ok X N (c.d.fact 18 (f := .glo "NoElder") rfl),
    He.glo_ok X N (c.d.fact 19 (f := .glo "Astray") rfl),
    He.glo_ok X N (c.d.fact 20 (f := .glo "NoPlace") rfl),
    He.glo_ok X N (c.d.fact 21 (f := .glo "Unlike") rfl),
    He.glo_ok X N (c.d.fact 22 (f := .glo "LeftOpen") rfl),
    He.glo_ok X N (c.d.fact 23 (f := .glo "NoValue") rfl),
    He.glo_ok X N (c.d.fact 24 (f := .glo "NoKind") rfl),
    He.glo_ok X N (c.d.fact 25 (f := .glo "NoRow") rfl)⟩
  obtain ⟨fd_iNoSign, F_iNoSign⟩ := c.d.def_ 0 (d := df_iNoSign) rfl
  obtain ⟨fd_iNoCode, F_iNoCode⟩ := c.d.def_ 1 (d := df_iNoCode) rfl
  obtain ⟨fd_iUnread, F_iUnread⟩ := c.d.def_ 2 (d := df_iUnread) rfl
  obtain ⟨fd_iNoPage, F_iNoPage⟩ := c.d.def_ 3 (d := df_iNoPage) rfl
  obtain ⟨fd_iNoName, F_iNoName⟩ := c.d.def_ 4 (d := df_iNoName) rfl
  obtain ⟨fd_iNoSheet, F_iNoSheet⟩ := c.d.def_ 5 (d := df_iNoSheet) rfl
  obtain ⟨fd_iTwice, F_iTwice⟩ := c.d.def_ 6 (d := df_iTwice) rfl
  obtain ⟨fd_iUnknown, F_iUnknown⟩ := c.d.def_ 7 (d := df_iUnknown) rfl
  obtain ⟨fd_iRingOver, F_iRingOver⟩ := c.d.def_ 8 (d := df_iRingOver) rfl
  obtain ⟨fd_iRinged, F_iRinged⟩ := c.d.def_ 9 (d := df_iRinged) rfl
  obtain ⟨fd_iNoElder, F_iNoElder⟩ := c.d.def_ 10 (d := df_iNoElder) rfl
  obtain ⟨fd_iAstray, F_iAstray⟩ := c.d.def_ 11 (d := df_iAstray) rfl
  obtain ⟨fd_iNoPlace, F_iNoPlace⟩ := c.d.def_ 12 (d := df_iNoPlace) rfl
  obtain ⟨fd_iUnlike, F_iUnlike⟩ := c.d.def_ 13 (d := df_iUnlike) rfl
  obtain ⟨fd_iLeftOpen, F_iLeftOpen⟩ := c.d.def_ 14 (d := df_iLeftOpen) rfl
  obtain ⟨fd_iNoValue, F_iNoValue⟩ := c.d.def_ 15 (d := df_iNoValue) rfl
  obtain ⟨fd_iNoKind, F_iNoKind⟩ := c.d.def_ 16 (d := df_iNoKind) rfl
  obtain ⟨fd_cell, F_cell⟩ := c.d.def_ 17 (d := df_cell) rfl
  obtain ⟨fd_word, F_word⟩ := c.d.def_ 18 (d := df_word) rfl
  obtain ⟨fd_things, F_things⟩ := c.d.def_ 19 (d := df_things) rfl
  obtain ⟨fd_first, F_first⟩ := c.d.def_ 20 (d := df_first) rfl
  obtain ⟨fd_raised, F_raised⟩ := c.d.def_ 21 (d := df_raised) rfl
  obtain ⟨fd_kinds, F_kinds⟩ := c.d.def_ 22 (d := df_kinds) rfl
  obtain ⟨fd_kept, F_kept⟩ := c.d.def_ 23 (d := df_kept) rfl
  obtain ⟨fd, F_law⟩ := c.d.def_ 24 (d := df_law) rfl
  have e := hfa.symm.trans (He.glo_ok X N (c.d.fact 33 (f := .glo "law") rfl))
  cases e
  have b := FunD.bindsA (ps := ["script"]) F_law fun _ _ _ _ _ _ us hl => match us, hl with | [_], _ => rfl
  refine ⟨fd, fun s v => b s [v] rfl, fun base _ _ => fnok_any ?_⟩
  have z_SealError := He.exc_ok (c.d.fact 51 (f := .exc "SealError") rfl)
  have m_SealError : Mk0 K mg "SealError" (He.ga K "SealError") := ⟨G.c_SealError, z_SealError.1, z_SealError.2.1, z_SealError.2.2.1, z_SealError.2.2.2⟩
  have m_NoSign : Mk2 P w K mg base 1 "NoSign" (He.ga K "NoSign") ["at"] := ⟨G.c_NoSign, B.oex _ (by decide +kernel), ⟨_, _, _, (He.meth_ok (c.d.fact 34 (f := .meth "NoSign" "__init__") rfl)).at_, eq_of_beq (He.meth_ok (c.d.fact 34 (f := .meth "NoSign" "__init__") rfl)).fn, in_NoSign F_iNoSign G B.vi, F_iNoSign.bindsN fun _ _ _ _ _ _ us hl => match us, hl with | [_, _], _ => rfl⟩, fun f hf => B.no _ (by decide +kernel) f (by revert f; decide +kernel), by decide, by decide⟩
  have m_NoCode : Mk2 P w K mg base 1 "NoCode" (He.ga K "NoCode") ["at"] := ⟨G.c_NoCode, B.oex _ (by decide +kernel), ⟨_, _, _, (He.meth_ok (c.d.fact 35 (f := .meth "NoCode" "__init__") rfl)).at_, eq_of_beq (He.meth_ok (c.d.fact 35 (f := .meth "NoCode" "__init__") rfl)).fn, in_NoCode F_iNoCode G B.vi, F_iNoCode.bindsN fun _ _ _ _ _ _ us hl => match us, hl with | [_, _], _ => rfl⟩, fun f hf => B.no _ (by decide +kernel) f (by revert f; decide +kernel), by decide, by decide⟩
  have m_Unread : Mk2 P w K mg base 1 "Unread" (He.ga K "Unread") ["at"] := ⟨G.c_Unread, B.oex _ (by decide +kernel), ⟨_, _, _, (He.meth_ok (c.d.fact 36 (f := .meth "Unread" "__init__") rfl)).at_, eq_of_beq (He.meth_ok (c.d.fact 36 (f := .meth "Unread" "__init__") rfl)).fn, in_Unread F_iUnread G B.vi, F_iUnread.bindsN fun _ _ _ _ _ _ us hl => match us, hl with | [_, _], _ => rfl⟩, fun f hf => B.no _ (by decide +kernel) f (by revert f; decide +kernel), by decide, by decide⟩
  have z_Unended := He.exc_ok (c.d.fact 52 (f := .exc "Unended") rfl)
  have m_Unended : Mk0 K mg "Unended" (He.ga K "Unended") := ⟨G.c_Unended, z_Unended.1, z_Unended.2.1, z_Unended.2.2.1, z_Unended.2.2.2⟩
  have m_NoPage : Mk2 P w K mg base 1 "NoPage" (He.ga K "NoPage") ["at"] := ⟨G.c_NoPage, B.oex _ (by decide +kernel), ⟨_, _, _, (He.meth_ok (c.d.fact 37 (f := .meth "NoPage" "__init__") rfl)).at_, eq_of_beq (He.meth_ok (c.d.fact 37 (f := .meth "NoPage" "__init__") rfl)).fn, in_NoPage F_iNoPage G B.vi, F_iNoPage.bindsN fun _ _ _ _ _ _ us hl => match us, hl with | [_, _], _ => rfl⟩, fun f hf => B.no _ (by decide +kernel) f (by revert f; decide +kernel), by decide, by decide⟩
  have m_NoName : Mk2 P w K mg base 1 "NoName" (He.ga K "NoName") ["name"] := ⟨G.c_NoName, B.oex _ (by decide +kernel), ⟨_, _, _, (He.meth_ok (c.d.fact 38 (f := .meth "NoName" "__init__") rfl)).at_, eq_of_beq (He.meth_ok (c.d.fact 38 (f := .meth "NoName" "__init__") rfl)).fn, in_NoName F_iNoName G B.vi, F_iNoName.bindsN fun _ _ _ _ _ _ us hl => match us, hl with | [_, _], _ => rfl⟩, fun f hf => B.no _ (by decide +kernel) f (by revert f; decide +kernel), by decide, by decide⟩
  have m_NoSheet : Mk2 P w K mg base 1 "NoSheet" (He.ga K "NoSheet") ["at"] := ⟨G.c_NoSheet, B.oex _ (by decide +kernel), ⟨_, _, _, (He.meth_ok (c.d.fact 39 (f := .meth "NoSheet" "__init__") rfl)).at_, eq_of_beq (He.meth_ok (c.d.fact 39 (f := .meth "NoSheet" "__init__") rfl)).fn, in_NoSheet F_iNoSheet G B.vi, F_iNoSheet.bindsN fun _ _ _ _ _ _ us hl => match us, hl with | [_, _], _ => rfl⟩, fun f hf => B.no _ (by decide +kernel) f (by revert f; decide +kernel), by decide, by decide⟩
  have m_Twice : Mk2 P w K mg base 1 "Twice" (He.ga K "Twice") ["name"] := ⟨G.c_Twice, B.oex _ (by decide +kernel), ⟨_, _, _, (He.meth_ok (c.d.fact 40 (f := .meth "Twice" "__init__") rfl)).at_, eq_of_beq (He.meth_ok (c.d.fact 40 (f := .meth "Twice" "__init__") rfl)).fn, in_Twice F_iTwice G B.vi, F_iTwice.bindsN fun _ _ _ _ _ _ us hl => match us, hl with | [_, _], _ => rfl⟩, fun f hf => B.no _ (by decide +kernel) f (by revert f; decide +kernel), by decide, by decide⟩
  have z_TooMany := He.exc_ok (c.d.fact 53 (f := .exc "TooMany") rfl)
  have m_TooMany : Mk0 K mg "TooMany" (He.ga K "TooMany") := ⟨G.c_TooMany, z_TooMany.1, z_TooMany.2.1, z_TooMany.2.2.1, z_TooMany.2.2.2⟩
  have m_Unknown : Mk2 P w K mg base 1 "Unknown" (He.ga K "Unknown") ["name"] := ⟨G.c_Unknown, B.oex _ (by decide +kernel), ⟨_, _, _, (He.meth_ok (c.d.fact 41 (f := .meth "Unknown" "__init__") rfl)).at_, eq_of_beq (He.meth_ok (c.d.fact 41 (f := .meth "Unknown" "__init__") rfl)).fn, in_Unknown F_iUnknown G B.vi, F_iUnknown.bindsN fun _ _ _ _ _ _ us hl => match us, hl with | [_, _], _ => rfl⟩, fun f hf => B.no _ (by decide +kernel) f (by revert f; decide +kernel), by decide, by decide⟩
  have m_RingOver : Mk2 P w K mg base 1 "RingOver" (He.ga K "RingOver") ["ring"] := ⟨G.c_RingOver, B.oex _ (by decide +kernel), ⟨_, _, _, (He.meth_ok (c.d.fact 42 (f := .meth "RingOver" "__init__") rfl)).at_, eq_of_beq (He.meth_ok (c.d.fact 42 (f := .meth "RingOver" "__init__") rfl)).fn, in_RingOver F_iRingOver G B.vi, F_iRingOver.bindsN fun _ _ _ _ _ _ us hl => match us, hl with | [_, _], _ => rfl⟩, fun f hf => B.no _ (by decide +kernel) f (by revert f; decide +kernel), by decide, by decide⟩
  have m_Ringed : Mk2 P w K mg base 1 "Ringed" (He.ga K "Ringed") ["ring"] := ⟨G.c_Ringed, B.oex _ (by decide +kernel), ⟨_, _, _, (He.meth_ok (c.d.fact 43 (f := .meth "Ringed" "__init__") rfl)).at_, eq_of_beq (He.meth_ok (c.d.fact 43 (f := .meth "Ringed" "__init__") rfl)).fn, in_Ringed F_iRinged G B.vi, F_iRinged.bindsN fun _ _ _ _ _ _ us hl => match us, hl with | [_, _], _ => rfl⟩, fun f hf => B.no _ (by decide +kernel) f (by revert f; decide +kernel), by decide, by decide⟩
  have m_NoElder : Mk2 P w K mg base 1 "NoElder" (He.ga K "NoElder") ["name"] := ⟨G.c_NoElder, B.oex _ (by decide +kernel), ⟨_, _, _, (He.meth_ok (c.d.fact 44 (f := .meth "NoElder" "__init__") rfl)).at_, eq_of_beq (He.meth_ok (c.d.fact 44 (f := .meth "NoElder" "__init__") rfl)).fn, in_NoElder F_iNoElder G B.vi, F_iNoElder.bindsN fun _ _ _ _ _ _ us hl => match us, hl with | [_, _], _ => rfl⟩, fun f hf => B.no _ (by decide +kernel) f (by revert f; decide +kernel), by decide, by decide⟩
  have m_Astray : Mk2 P w K mg base 1 "Astray" (He.ga K "Astray") ["place", "at"] := ⟨G.c_Astray, B.oex _ (by decide +kernel), ⟨_, _, _, (He.meth_ok (c.d.fact 45 (f := .meth "Astray" "__init__") rfl)).at_, eq_of_beq (He.meth_ok (c.d.fact 45 (f := .meth "Astray" "__init__") rfl)).fn, in_Astray F_iAstray G B.vi, F_iAstray.bindsN fun _ _ _ _ _ _ us hl => match us, hl with | [_, _, _], _ => rfl⟩, fun f hf => B.no _ (by decide +kernel) f (by revert f; decide +kernel), by decide, by decide⟩
  have m_NoPlace : Mk2 P w K mg base 1 "NoPlace" (He.ga K "NoPlace") ["name", "place"] := ⟨G.c_NoPlace, B.oex _ (by decide +kernel), ⟨_, _, _, (He.meth_ok (c.d.fact 46 (f := .meth "NoPlace" "__init__") rfl)).at_, eq_of_beq (He.meth_ok (c.d.fact 46 (f := .meth "NoPlace" "__init__") rfl)).fn, in_NoPlace F_iNoPlace G B.vi, F_iNoPlace.bindsN fun _ _ _ _ _ _ us hl => match us, hl with | [_, _, _], _ => rfl⟩, fun f hf => B.no _ (by decide +kernel) f (by revert f; decide +kernel), by decide, by decide⟩
  have m_Unlike : Mk2 P w K mg base 1 "Unlike" (He.ga K "Unlike") ["what", "one", "other"] := ⟨G.c_Unlike, B.oex _ (by decide +kernel), ⟨_, _, _, (He.meth_ok (c.d.fact 47 (f := .meth "Unlike" "__init__") rfl)).at_, eq_of_beq (He.meth_ok (c.d.fact 47 (f := .meth "Unlike" "__init__") rfl)).fn, in_Unlike F_iUnlike G B.vi, F_iUnlike.bindsN fun _ _ _ _ _ _ us hl => match us, hl with | [_, _, _, _], _ => rfl⟩, fun f hf => B.no _ (by decide +kernel) f (by revert f; decide +kernel), by decide, by decide⟩
  have m_LeftOpen : Mk2 P w K mg base 1 "LeftOpen" (He.ga K "LeftOpen") ["place"] := ⟨G.c_LeftOpen, B.oex _ (by decide +kernel), ⟨_, _, _, (He.meth_ok (c.d.fact 48 (f := .meth "LeftOpen" "__init__") rfl)).at_, eq_of_beq (He.meth_ok (c.d.fact 48 (f := .meth "LeftOpen" "__init__") rfl)).fn, in_LeftOpen F_iLeftOpen G B.vi, F_iLeftOpen.bindsN fun _ _ _ _ _ _ us hl => match us, hl with | [_, _], _ => rfl⟩, fun f hf => B.no _ (by decide +kernel) f (by revert f; decide +kernel), by decide, by decide⟩
  have m_NoValue : Mk2 P w K mg base 1 "NoValue" (He.ga K "NoValue") ["name"] := ⟨G.c_NoValue, B.oex _ (by decide +kernel), ⟨_, _, _, (He.meth_ok (c.d.fact 49 (f := .meth "NoValue" "__init__") rfl)).at_, eq_of_beq (He.meth_ok (c.d.fact 49 (f := .meth "NoValue" "__init__") rfl)).fn, in_NoValue F_iNoValue G B.vi, F_iNoValue.bindsN fun _ _ _ _ _ _ us hl => match us, hl with | [_, _], _ => rfl⟩, fun f hf => B.no _ (by decide +kernel) f (by revert f; decide +kernel), by decide, by decide⟩
  have m_NoKind : Mk2 P w K mg base 1 "NoKind" (He.ga K "NoKind") ["name"] := ⟨G.c_NoKind, B.oex _ (by decide +kernel), ⟨_, _, _, (He.meth_ok (c.d.fact 50 (f := .meth "NoKind" "__init__") rfl)).at_, eq_of_beq (He.meth_ok (c.d.fact 50 (f := .meth "NoKind" "__init__") rfl)).fn, in_NoKind F_iNoKind G B.vi, F_iNoKind.bindsN fun _ _ _ _ _ _ us hl => match us, hl with | [_, _], _ => rfl⟩, fun f hf => B.no _ (by decide +kernel) f (by revert f; decide +kernel), by decide, by decide⟩
  have z_NoRow := He.exc_ok (c.d.fact 54 (f := .exc "NoRow") rfl)
  have m_NoRow : Mk0 K mg "NoRow" (He.ga K "NoRow") := ⟨G.c_NoRow, z_NoRow.1, z_NoRow.2.1, z_NoRow.2.2.1, z_NoRow.2.2.2⟩
  have U : Xs P w K mg base := ⟨trivial, m_SealError, m_NoSign, m_NoCode, m_Unread, m_Unended, m_NoPage, m_NoName, m_NoSheet, m_Twice, m_TooMany, m_Unknown, m_RingOver, m_Ringed, m_NoElder, m_Astray, m_NoPlace, m_Unlike, m_LeftOpen, m_NoValue, m_NoKind, m_NoRow⟩
  have C_cell := mk_cell F_cell (He.glo_ok X N (c.d.fact 26 (f := .glo "_law_cell") rfl)) G U len_cell (by first | exact law_cell B | exact law_cell)
  have C_word := mk_word F_word (He.glo_ok X N (c.d.fact 27 (f := .glo "_law_word") rfl)) G U len_word (by first | exact law_word B | exact law_word)
  have C_things := mk_things F_things (He.glo_ok X N (c.d.fact 28 (f := .glo "_law_things") rfl)) G U C_word len_things (by first | exact law_things B | exact law_things)
  have C_first := mk_first F_first (He.glo_ok X N (c.d.fact 29 (f := .glo "_law_first") rfl)) G U len_first (by first | exact law_first B | exact law_first)
  have C_raised := mk_raised F_raised (He.glo_ok X N (c.d.fact 30 (f := .glo "_law_raised") rfl)) G U C_first len_raised (by first | exact law_raised B | exact law_raised)
  have C_kinds := mk_kinds F_kinds (He.glo_ok X N (c.d.fact 31 (f := .glo "_law_kinds") rfl)) G U C_raised len_kinds (by first | exact law_kinds B | exact law_kinds)
  have C_kept := mk_kept F_kept (He.glo_ok X N (c.d.fact 32 (f := .glo "_law_kept") rfl)) G U C_raised len_kept (by first | exact law_kept B | exact law_kept)
  exact fnD F_law sc_law len_law (dv_law G U C_things C_cell C_kinds C_kept) (by first | exact law_law B | exact law_law)
abbrev R : PySem.W.OpenRow := PySem.W.OpenLaw.row PySem.Challenge.rw_sealpress_k18_refusals_apart
abbrev hk : PySem.W.Hook := hookY 6 fa fn [] exK
def ob (s : PySem.W.SharedT) : He.AlX := obsY 6 fa fn [] exK (HandSHeadRun.getT s)
theorem ob_eq (s : PySem.W.SharedT) : ob s = hk.obs s.abs := obsY_eq (HandSHeadRun.getT_eq s)
def names : List Str := ["SealError","NoSign","NoCode","Unread","Unended","NoPage","NoName","NoSheet","Twice","TooMany","Unknown","RingOver","Ringed","NoElder","Astray","NoPlace","Unlike","LeftOpen","NoValue","NoKind","NoRow","_law_cell","_law_word","_law_things","_law_first","_law_raised","_law_kinds","_law_kept"]
theorem run (w : World) : HandSHeadRun.RunEq R (PySem.W.view R.prog [30]) hk ob 40000 names w := by
  intro os
  kernel_rfl
end K18
open PySem PySem.W PySem.Calls PyProof.Rows
theorem PySem.Challenge.cw_sealpress_k18_refusals_apart_holds : PySem.Challenge.rw_sealpress_k18_refusals_apart.Holds := by
  w_on; o_law
  refine HandSHeadRun.head_any (r := OpenLaw.row PySem.Challenge.rw_sealpress_k18_refusals_apart) (q := view (OpenLaw.row PySem.Challenge.rw_sealpress_k18_refusals_apart).prog [30]) (H := K18.hk) (ob := K18.ob) (M := 40000) (loose := K18.names) (d := HandSHeadRun.topDef (OpenLaw.row PySem.Challenge.rw_sealpress_k18_refusals_apart).prog 30) (kwd := []) K18.ob_eq
    (by kernel_rfl) (fun s => by kernel_rfl) K18.run (by kernel_rfl) (by kernel_rfl) (by kernel_rfl) (by rfl) (by first | assumption | decide +kernel) (by decide +kernel) ⟨rfl, rfl, rfl, rfl, rfl, by decide +kernel⟩ ?hw ?hc
  case hw => w_witness2
  case hc =>
    refine L2.walk_ofE (l := PySem.Challenge.rw_sealpress_k18_refusals_apart) (n := 63) (k := 6) (x := "script") (CX := D2.CXp (PySem.Challenge.rw_sealpress_k18_refusals_apart).prog) rfl (by decide) (by kernel_rfl) ⟨rfl, by decide, by decide⟩ ?F (fun H s e s' z => D2.cxp_no H s e s' z)
    intro w mg fa h Y N hmg0
    obtain ⟨K, KX, c, ex⟩ := Y
    have hmg : mg ("law" : PySem.Str) = some (.ref fa) := by
      have e : (HandSHeadRun.topDef (OpenLaw.row PySem.Challenge.rw_sealpress_k18_refusals_apart).prog 30).name = ("law" : PySem.Str) := by kernel_rfl
      rw [← e]
      exact hmg0
    obtain ⟨fd, hb, hF⟩ := K18.facts (P := (PySem.Challenge.rw_sealpress_k18_refusals_apart).prog) (w := w) KX N hmg c ex
    exact ⟨K, fd, D2.liftSp K (K18.sp_law K), KX, hb, fun H a ns hl hO hS => D2.law_sp (fun ds μ q e z => z) H a ns hO hS, hF⟩
