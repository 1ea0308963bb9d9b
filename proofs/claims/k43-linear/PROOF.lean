import PyProof.Rows.All
import HandS.ForMost
import HandS.Exc
import HandS.TryOnly
import HandS.ExcOwn
import HandS.WordsExc
import HandS.ExcSuper
import HandS.ExcField
import HandS.ExcIs
import HandS.CallSlots
import HandS.Wide
import HandS.Gcd
import HandS.Style
import HandS.RaiseMore
import HandS.TupAny
import KE.KExcInit
import KE.KSuper
import KE.KExcIs
import HandS.Flt
import HandS.IsInst
import HandS.Deep
import HandS.Zip
import KE.DatumOrd
import HandS.Rev
import HandS.Words
import HandS.Codes
import KE.SortData
import HandS.OwnEq
import HandS.Conv
import KE.KDictSum
import HandS.TupSets
import HandS.EndBits
import PySem.Challenge.RW_leastfield_k43_whole_linear_fields
set_option Elab.async false
set_option linter.all false
set_option maxRecDepth 100000
set_option maxHeartbeats 8000000
namespace PL
open PySem PySem.Spec L2
inductive D where
  | non | bl (b : Bool) | int (i : Int) | str (x : Str) | tup (ds : List D) | lst (ds : List D) | ref (a : Addr) | obj (cn : Str) (ks : List Str) (ds : List D)
/-- a list that stays as it is: locked, or one of the module's -/
def FzL (K : PySem.W.Frag) (H : Hp) (a : Addr) (xs : List V) : Prop :=
  (∃ o, H a = some (.frz o (.lst xs))) ∨
    ∃ (o : Obj) (its : Array Value) (n : Nat), K.lookup a = some o ∧ o.cls = .type "list" ∧ o.dict = none ∧ o.data = .seq its n ∧ its.size ≤ sizeLine ∧ Vals xs its.toList
theorem FzL.sql {K : PySem.W.Frag} {H : Hp} {a : Addr} {xs : List V} : FzL K H a xs → SqL K H a xs
  | .inl h => .inl (.inr h)
  | .inr h => .inr h
mutual
inductive Rep (K : PySem.W.Frag) (H : Hp) : V → D → Prop
  | non : Rep K H .non .non
  | bl (b : Bool) : Rep K H (.bl b) (.bl b)
  | int (i : Int) : Rep K H (.int i) (.int i)
  | str (x : Str) : Rep K H (.str x) (.str x)
  | ref (a : Addr) : Rep K H (.ref a) (.ref a)
  | tup {a : Addr} {xs : List V} {ds : List D} : SqT K H a xs → RepL K H xs ds → Rep K H (.ref a) (.tup ds)
  | lst {a : Addr} {xs : List V} {ds : List D} : FzL K H a xs → RepL K H xs ds → Rep K H (.ref a) (.lst ds)
  | obj {a dx C : Addr} {cn : Str} {ks : List Str} {xs : List V} {ds : List D} : PySem.W.nsIn K mainGlobals cn = some (some (.ref C)) → H a = some (.ins C dx (ks.zip xs)) → ks.length = ds.length → RepL K H xs ds → Rep K H (.ref a) (.obj cn ks ds)
inductive RepL (K : PySem.W.Frag) (H : Hp) : List V → List D → Prop
  | nil : RepL K H [] []
  | cons {v : V} {vs : List V} {d : D} {ds : List D} : Rep K H v d → RepL K H vs ds → RepL K H (v :: vs) (d :: ds)
end
structure Ext (H H' : Hp) : Prop where
  tup : ∀ b xs, H b = some (.tup xs) → H' b = some (.tup xs)
  frz : ∀ b o u, H b = some (.frz o u) → H' b = some (.frz o u)
  xd : ∀ b fs, H b = some (.xd fs) → H' b = some (.xd fs)
  ins : ∀ b C dx fs, H b = some (.ins C dx fs) → H' b = some (.ins C dx fs)
theorem Ext.refl (H : Hp) : Ext H H := ⟨fun _ _ e => e, fun _ _ _ e => e, fun _ _ e => e, fun _ _ _ _ e => e⟩
theorem Ext.trans {H H1 H2 : Hp} (a : Ext H H1) (b : Ext H1 H2) : Ext H H2 := ⟨fun c xs e => b.tup c xs (a.tup c xs e), fun c o u e => b.frz c o u (a.frz c o u e), fun c fs e => b.xd c fs (a.xd c fs e), fun c C dx fs e => b.ins c C dx fs (a.ins c C dx fs e)⟩
theorem Ext.new {H : Hp} {p : Addr} {o : HO} (h : H p = none) : Ext H (upd H p o) :=
  ⟨fun b xs e => by rw [upd_ne (ne_of_none e h)]; exact e, fun b o' u e => by rw [upd_ne (ne_of_none e h)]; exact e, fun b fs e => by rw [upd_ne (ne_of_none e h)]; exact e, fun b C dx fs e => by rw [upd_ne (ne_of_none e h)]; exact e⟩
theorem Ext.put {H : Hp} {p : Addr} {xs : List V} {o : HO} (h : H p = some (.lst xs)) : Ext H (upd H p o) :=
  ⟨fun b ys e => by rw [upd_ne (ne_of e h (fun z => by cases z))]; exact e, fun b o' u e => by rw [upd_ne (ne_of e h (fun z => by cases z))]; exact e, fun b fs e => by rw [upd_ne (ne_of e h (fun z => by cases z))]; exact e, fun b C dx fs e => by rw [upd_ne (ne_of e h (fun z => by cases z))]; exact e⟩
theorem Ext.sqt {K : PySem.W.Frag} {H H' : Hp} {a : Addr} {xs : List V} (e : Ext H H') : SqT K H a xs → SqT K H' a xs
  | .inl (.inl h) => .inl (.inl (e.tup _ _ h))
  | .inl (.inr ⟨o, h⟩) => .inl (.inr ⟨o, e.frz _ _ _ h⟩)
  | .inr h => .inr h
theorem Ext.fzl {K : PySem.W.Frag} {H H' : Hp} {a : Addr} {xs : List V} (e : Ext H H') : FzL K H a xs → FzL K H' a xs
  | .inl ⟨o, h⟩ => .inl ⟨o, e.frz _ _ _ h⟩
  | .inr h => .inr h
mutual
theorem Rep.ext {K : PySem.W.Frag} {H H' : Hp} (e : Ext H H') : ∀ {v : V} {d : D}, Rep K H v d → Rep K H' v d
  | _, _, .non => .non
  | _, _, .bl b => .bl b
  | _, _, .int i => .int i
  | _, _, .str x => .str x
  | _, _, .ref a => .ref a
  | _, _, .tup h r => .tup (e.sqt h) (RepL.ext e r)
  | _, _, .lst h r => .lst (e.fzl h) (RepL.ext e r)
  | _, _, .obj h h2 h3 r => .obj h (e.ins _ _ _ _ h2) h3 (RepL.ext e r)
theorem RepL.ext {K : PySem.W.Frag} {H H' : Hp} (e : Ext H H') : ∀ {vs : List V} {ds : List D}, RepL K H vs ds → RepL K H' vs ds
  | _, _, .nil => .nil
  | _, _, .cons r t => .cons (Rep.ext e r) (RepL.ext e t)
end
end PL
namespace PL
open PySem PySem.Spec L2
/-! ### lists of data -/
section
variable {K : PySem.W.Frag} {H H' : Hp}
theorem RepL.length : ∀ {vs : List V} {ds : List D}, RepL K H vs ds → vs.length = ds.length
  | _, _, .nil => rfl
  | _, _, .cons _ t => by simp only [List.length_cons, RepL.length t]
theorem RepL.get : ∀ {vs : List V} {ds : List D} {i : Nat} {d : D}, RepL K H vs ds → ds[i]? = some d → ∃ v, vs[i]? = some v ∧ Rep K H v d
  | _, _, _, _, .nil, e => by simp at e
  | _, _, 0, _, .cons r _, e => by simp at e; subst e; exact ⟨_, rfl, r⟩
  | _, _, i + 1, _, .cons _ t, e => by
    obtain ⟨v, h1, h2⟩ := RepL.get (i := i) t (by simpa using e)
    exact ⟨v, by simpa using h1, h2⟩
theorem RepL.getV : ∀ {vs : List V} {ds : List D} {i : Nat} {v : V}, RepL K H vs ds → vs[i]? = some v → ∃ d, ds[i]? = some d ∧ Rep K H v d
  | _, _, _, _, .nil, e => by simp at e
  | _, _, 0, _, .cons r _, e => by simp at e; subst e; exact ⟨_, rfl, r⟩
  | _, _, i + 1, _, .cons _ t, e => by
    obtain ⟨v, h1, h2⟩ := RepL.getV (i := i) t (by simpa using e)
    exact ⟨v, by simpa using h1, h2⟩
theorem RepL.append : ∀ {vs us : List V} {ds es : List D}, RepL K H vs ds → RepL K H us es → RepL K H (vs ++ us) (ds ++ es)
  | _, _, _, _, .nil, s => s
  | _, _, _, _, .cons r t, s => .cons r (RepL.append t s)
theorem RepL.set : ∀ {vs : List V} {ds : List D} {v : V} {d : D} (i : Nat), RepL K H vs ds → Rep K H v d → RepL K H (vs.set i v) (ds.set i d)
  | _, _, _, _, _, .nil, _ => .nil
  | _, _, _, _, 0, .cons _ t, q => .cons q t
  | _, _, _, _, i + 1, .cons r t, q => .cons r (RepL.set i t q)
theorem RepL.take : ∀ {vs : List V} {ds : List D} (n : Nat), RepL K H vs ds → RepL K H (vs.take n) (ds.take n)
  | _, _, 0, _ => .nil
  | _, _, _ + 1, .nil => .nil
  | _, _, n + 1, .cons r t => .cons r (RepL.take n t)
theorem RepL.drop : ∀ {vs : List V} {ds : List D} (n : Nat), RepL K H vs ds → RepL K H (vs.drop n) (ds.drop n)
  | _, _, 0, r => r
  | _, _, _ + 1, .nil => .nil
  | _, _, n + 1, .cons _ t => RepL.drop n t
theorem RepL.rev {vs : List V} {ds : List D} : RepL K H vs ds → RepL K H vs.reverse ds.reverse := by
  intro h
  induction vs generalizing ds with
  | nil => cases h; exact .nil
  | cons v vs ih =>
    cases h with
    | cons r t =>
      rw [List.reverse_cons, List.reverse_cons]
      exact (ih t).append (.cons r .nil)
theorem RepL.dropLast {vs : List V} {ds : List D} (h : RepL K H vs ds) : RepL K H vs.dropLast ds.dropLast := by
  rw [List.dropLast_eq_take, List.dropLast_eq_take, h.length]
  exact h.take _
theorem RepL.ints : ∀ {vs : List V} {ns : List Int}, RepL K H vs (ns.map D.int) → vs = ns.map V.int
  | _, [], .nil => rfl
  | _, _ :: _, .cons (.int _) t => by rw [RepL.ints t]; rfl
theorem RepL.of_ints : ∀ (ns : List Int), RepL K H (ns.map V.int) (ns.map D.int)
  | [] => .nil
  | n :: ns => .cons (.int n) (RepL.of_ints ns)
end
/-! ### the store: what may change -/
/-- a thing that changes, other than a list -/
inductive DX where
  | dic (kvs : List (List Int × D))
inductive DO where
  | lst (ds : List D)
  | oth (x : DX)
abbrev Sto := Addr → Option DO
def sput (S : Sto) (a : Addr) (o : DO) : Sto := fun b => if b = a then some o else S b
theorem sput_same {S : Sto} {a : Addr} {o : DO} : sput S a o a = some o := by unfold sput; rw [if_pos rfl]
theorem sput_ne {S : Sto} {a b : Addr} {o : DO} (h : b ≠ a) : sput S a o b = S b := by unfold sput; rw [if_neg h]
theorem sput_sput {S : Sto} {a : Addr} {o u : DO} : sput (sput S a o) a u = sput S a u := by
  funext b; unfold sput; split <;> rfl
/-- a dict's entry: a tuple of whole numbers, where it stands, the value -/
def dcE (x : List Int × Addr × Value) : DictEntry := ⟨reduceHash (Builtin.Tuple.tupleHashOf (x.1.map hashInt)), .ref x.2.1, x.2.2⟩
def dcO (a : Addr) (xs : List (List Int × Addr × Value)) : HO := .ext fun h => (a == sysModules) = false ∧ xs.length ≤ sizeLine ∧ (xs.map (·.1)).Nodup ∧ ∃ o es ep, h.get? a = some o ∧ o.ExactDict ∧ o.data = .dict es ep ∧ es.toList = xs.map dcE
abbrev KD (K : PySem.W.Frag) (H : Hp) : List (List Int × D) → List (List Int × Addr × Value) → Prop :=
  Paired fun p q => p.1 = q.1 ∧ SqT K H q.2.1 (p.1.map V.int) ∧ ∃ v, RelV v q.2.2 ∧ Rep K H v p.2
theorem KD.ext {K : PySem.W.Frag} {H H' : Hp} (e : Ext H H') {kvs : List (List Int × D)} {xs : List (List Int × Addr × Value)} (r : KD K H kvs xs) : KD K H' kvs xs :=
  Paired.mapP r fun _ _ ⟨h1, h2, v, h3, h4⟩ => ⟨h1, e.sqt h2, v, h3, h4.ext e⟩
def RepY (K : PySem.W.Frag) (H : Hp) (a : Addr) : DX → Prop
  | .dic kvs => ∃ xs, H a = some (dcO a xs) ∧ KD K H kvs xs
theorem RepY.here {K : PySem.W.Frag} {H : Hp} {a : Addr} {x : DX} (r : RepY K H a x) : ∃ φ, H a = some (.ext φ) := by
  cases x with
  | dic kvs => obtain ⟨xs, q, _⟩ := r; exact ⟨_, q⟩
theorem RepY.ext {K : PySem.W.Frag} {H H' : Hp} {a : Addr} {x : DX} (r : RepY K H a x) (e : Ext H H') (q : H' a = H a) : RepY K H' a x := by
  cases x with
  | dic kvs => obtain ⟨xs, h1, h2⟩ := r; exact ⟨xs, q.trans h1, h2.ext e⟩
def RepO (K : PySem.W.Frag) (H : Hp) (a : Addr) : DO → Prop
  | .lst ds => ∃ vs, H a = some (.lst vs) ∧ RepL K H vs ds
  | .oth x => RepY K H a x
def RepS (K : PySem.W.Frag) (H : Hp) (S : Sto) : Prop := ∀ a o, S a = some o → RepO K H a o
abbrev Env := List (Option D)
structure RepE (K : PySem.W.Frag) (H : Hp) (σ : St) (env : Env) : Prop where
  len : σ.length = env.length
  get : ∀ (i : Nat) (d : D), env[i]? = some (some d) → ∃ v : V, σ[i]? = some (some v) ∧ Rep K H v d
section
variable {K : PySem.W.Frag} {H H' : Hp} {S : Sto} {σ : St} {env : Env}
theorem RepE.ext (r : RepE K H σ env) (e : Ext H H') : RepE K H' σ env := ⟨r.len, fun i d q => let ⟨v, a, b⟩ := r.get i d q; ⟨v, a, b.ext e⟩⟩
theorem RepE.set {i : Nat} {v : V} {d : D} (r : RepE K H σ env) (q : Rep K H v d) : RepE K H (σ.set i (some v)) (env.set i (some d)) := by
  refine ⟨by rw [List.length_set, List.length_set, r.len], fun j e h => ?_⟩
  by_cases hj : j = i
  · subst hj
    have hl : j < env.length := by
      have := (List.getElem?_eq_some_iff.mp h).1
      rwa [List.length_set] at this
    rw [List.getElem?_set_self hl] at h
    cases h
    exact ⟨v, List.getElem?_set_self (r.len ▸ hl), q⟩
  · rw [List.getElem?_set_ne (Ne.symm hj)] at h
    rw [List.getElem?_set_ne (Ne.symm hj)]
    exact r.get j e h
theorem RepE.forget {i : Nat} {v : Option V} (r : RepE K H σ env) : RepE K H (σ.set i v) (env.set i none) := by
  refine ⟨by rw [List.length_set, List.length_set, r.len], fun j e h => ?_⟩
  by_cases hj : j = i
  · subst hj
    have hl : j < env.length := by
      have := (List.getElem?_eq_some_iff.mp h).1
      rwa [List.length_set] at this
    rw [List.getElem?_set_self hl] at h
    cases h
  · rw [List.getElem?_set_ne (Ne.symm hj)] at h
    rw [List.getElem?_set_ne (Ne.symm hj)]
    exact r.get j e h
theorem RepS.free (r : RepS K H S) {p : Addr} (h : H p = none) : S p = none := by
  cases e : S p with
  | none => rfl
  | some o =>
    cases o with
    | lst ds =>
      obtain ⟨vs, q, _⟩ := r p _ e
      rw [h] at q; cases q
    | oth x =>
      obtain ⟨φ, q⟩ := RepY.here (r p _ e)
      rw [h] at q; cases q
theorem RepO.new {a p : Addr} {o : DO} {u : HO} (h : H p = none) (r : RepO K H a o) : RepO K (upd H p u) a o := by
  cases o with
  | lst ds =>
    obtain ⟨vs, q, t⟩ := r
    exact ⟨vs, by rw [upd_ne (ne_of_none q h)]; exact q, t.ext (Ext.new h)⟩
  | oth x =>
    obtain ⟨φ, q⟩ := RepY.here r
    exact RepY.ext r (Ext.new h) (upd_ne (ne_of_none q h))
theorem RepS.new {p : Addr} {u : HO} (h : H p = none) (r : RepS K H S) : RepS K (upd H p u) S := fun a o e => RepO.new h (r a o e)
theorem RepS.newL {p : Addr} {vs : List V} {ds : List D} (h : H p = none) (r : RepS K H S) (q : RepL K H vs ds) : RepS K (upd H p (.lst vs)) (sput S p (.lst ds)) := fun a o e => by
  by_cases ha : a = p
  · subst ha
    rw [sput_same] at e
    cases e
    exact ⟨vs, upd_same, q.ext (Ext.new h)⟩
  · rw [sput_ne ha] at e
    exact RepO.new h (r a o e)
theorem RepS.putL {p : Addr} {us vs : List V} {ds : List D} (h : H p = some (.lst us)) (r : RepS K H S) (q : RepL K H vs ds) : RepS K (upd H p (.lst vs)) (sput S p (.lst ds)) := fun a o e => by
  by_cases ha : a = p
  · subst ha
    rw [sput_same] at e
    cases e
    exact ⟨vs, upd_same, q.ext (Ext.put h)⟩
  · rw [sput_ne ha] at e
    have t := r a o e
    cases o with
    | lst ds =>
      obtain ⟨ws, q, t⟩ := t
      exact ⟨ws, by rw [upd_ne ha]; exact q, t.ext (Ext.put h)⟩
    | oth x => exact RepY.ext t (Ext.put h) (upd_ne ha)
theorem RepS.newY {p : Addr} {u : HO} {x : DX} (h : H p = none) (r : RepS K H S) (q : RepY K (upd H p u) p x) : RepS K (upd H p u) (sput S p (.oth x)) := fun a o e => by
  by_cases ha : a = p
  · subst ha
    rw [sput_same] at e
    cases e
    exact q
  · rw [sput_ne ha] at e
    exact RepO.new h (r a o e)
theorem _root_.PL.Ext.putY {p : Addr} {φ : Heap → Prop} {o : HO} (h : H p = some (.ext φ)) : Ext H (upd H p o) :=
  ⟨fun b ys e => by rw [upd_ne (ne_of e h (fun z => by cases z))]; exact e, fun b o' u e => by rw [upd_ne (ne_of e h (fun z => by cases z))]; exact e, fun b fs e => by rw [upd_ne (ne_of e h (fun z => by cases z))]; exact e, fun b C dx fs e => by rw [upd_ne (ne_of e h (fun z => by cases z))]; exact e⟩
theorem RepS.putY {p : Addr} {u : HO} {φ : Heap → Prop} {x : DX} (h : H p = some (.ext φ)) (r : RepS K H S) (q : RepY K (upd H p u) p x) : RepS K (upd H p u) (sput S p (.oth x)) := fun a o e => by
  by_cases ha : a = p
  · subst ha
    rw [sput_same] at e
    cases e
    exact q
  · rw [sput_ne ha] at e
    have t := r a o e
    cases o with
    | lst ds =>
      obtain ⟨ws, q, t⟩ := t
      exact ⟨ws, by rw [upd_ne ha]; exact q, t.ext (Ext.putY h)⟩
    | oth x => exact RepY.ext t (Ext.putY h) (upd_ne ha)
end
/-! ### exceptions -/
structure XD where
  cls : Str
  fs : List (Str × D)
def clsV (mg : Str → Option Value) (x : Str) : Option Value := match mg x with
  | some v => some v
  | none => bootBuiltins x
def RepX (K : PySem.W.Frag) (mg : Str → Option Value) (H : Hp) (cls : Value) (d : Option Addr) (x : XD) : Prop :=
  clsV mg x.cls = some cls ∧ match x.fs with
    | [] => d = none
    | p :: r => ∃ dd fv, d = some dd ∧ H dd = some (.xd fv) ∧ fv.map (·.1) = (p :: r).map (·.1) ∧ RepL K H (fv.map (·.2)) ((p :: r).map (·.2))
/-! ### readings by data -/
abbrev PD := D → Sto → Prop
abbrev PX := XD → Sto → Prop
abbrev WE := Env → Sto → PD → PX → Prop
abbrev WB := Env → Sto → (Bool → Sto → Prop) → PX → Prop
abbrev WA := Env → Sto → (List D → Sto → Prop) → PX → Prop
section
variable (K : PySem.W.Frag) (mg : Str → Option Value) (W : WX)
def okX (H0 : Hp) (σ : St) (X : PX) : Prop := ∀ x S' cls dd H', X x S' → Ext H0 H' → RepX K mg H' cls dd x → RepS K H' S' → W cls dd σ H'
def okE (H0 : Hp) (P : PD) (Q : VK) : Prop := ∀ d S' v H', P d S' → Ext H0 H' → Rep K H' v d → RepS K H' S' → Q v H'
def okB (H0 : Hp) (P : Bool → Sto → Prop) (Q : Bool → Hp → Prop) : Prop := ∀ b S' H', P b S' → Ext H0 H' → RepS K H' S' → Q b H'
def okA (n : Nat) (H0 : Hp) (P : List D → Sto → Prop) (Q : List V → Hp → Prop) : Prop := ∀ ds S' vs H', P ds S' → ds.length = n → Ext H0 H' → RepL K H' vs ds → RepS K H' S' → Q vs H'
def tE (w : WE) : TE := fun σ H Q => ∃ env S P X, RepE K H σ env ∧ RepS K H S ∧ w env S P X ∧ okE K H P Q ∧ okX K mg W H σ X
def tT (w : WB) : TT := fun σ H Q => ∃ env S P X, RepE K H σ env ∧ RepS K H S ∧ w env S P X ∧ okB K H P Q ∧ okX K mg W H σ X
def tA (n : Nat) (w : WA) : TA := fun σ H Q => ∃ env S P X, RepE K H σ env ∧ RepS K H S ∧ w env S P X ∧ okA K n H P Q ∧ okX K mg W H σ X
end
section
variable {K : PySem.W.Frag} {mg : Str → Option Value} {W : WX} {H H1 : Hp} {σ : St} {X : PX} {P : PD} {Q : VK}
theorem okX.ext (h : okX K mg W H σ X) (e : Ext H H1) : okX K mg W H1 σ X := fun x S' c d H' a b r s => h x S' c d H' a (e.trans b) r s
theorem okE.ext (h : okE K H P Q) (e : Ext H H1) : okE K H1 P Q := fun d S' v H' a b r s => h d S' v H' a (e.trans b) r s
theorem okB.ext {P : Bool → Sto → Prop} {Q : Bool → Hp → Prop} (h : okB K H P Q) (e : Ext H H1) : okB K H1 P Q := fun d S' H' a b s => h d S' H' a (e.trans b) s
theorem okA.ext {n : Nat} {P : List D → Sto → Prop} {Q : List V → Hp → Prop} (h : okA K n H P Q) (e : Ext H H1) : okA K n H1 P Q := fun d S' v H' a l b r s => h d S' v H' a l (e.trans b) r s
theorem okE.here {d : D} {S : Sto} {v : V} (h : okE K H P Q) (p : P d S) (r : Rep K H v d) (s : RepS K H S) : Q v H := h d S v H p (Ext.refl H) r s
end
abbrev IE (X : Cx) (W : WX) (e : Expr) (w : WE) : Prop := PE X e (tE X.K X.mg W w)
abbrev IT (X : Cx) (W : WX) (e : Expr) (w : WB) : Prop := PT X e (tT X.K X.mg W w)
abbrev IA (X : Cx) (W : WX) (es : List Expr) (w : WA) : Prop := PA X es (tA X.K X.mg W es.length w)
/-- weaker readings -/
theorem _root_.L2.PE.of {X : Cx} {e : Expr} {t u : TE} (h : PE X e t) (i : ∀ σ H Q, u σ H Q → t σ H Q) : PE X e u := ⟨fun pins s σ H Q I q => h.run pins s σ H Q I (i σ H Q q)⟩
theorem _root_.L2.PT.of {X : Cx} {e : Expr} {t u : TT} (h : PT X e t) (i : ∀ σ H Q, u σ H Q → t σ H Q) : PT X e u := ⟨fun pins s σ H Q I q => h.run pins s σ H Q I (i σ H Q q)⟩
theorem _root_.L2.PA.of {X : Cx} {e : List Expr} {t u : TA} (h : PA X e t) (i : ∀ σ H Q, u σ H Q → t σ H Q) : PA X e u := ⟨fun pos pins s σ H Q I q => h.run pos pins s σ H Q I (i σ H Q q)⟩
/-! ### by values -/
/-- what a step on values is, by data -/
abbrev O1 := D → Sto → PD → Prop
abbrev O2 := D → D → Sto → PD → Prop
abbrev ON := List D → Sto → PD → Prop
def StepsE (X : Cx) (pins : List (Addr × Obj)) (σ : St) (H : Hp) (P : PD) (m : Sem Value) (s : Shared) : Prop :=
  ∀ Q : VK, okE X.K H P Q → wpAny (model X.prog X.w) X.A m (EP X pins σ Q) X.xe s
def D2 (X : Cx) (f : Value → Value → Sem Value) (o : O2) : Prop :=
  ∀ (pins : List (Addr × Obj)) (s : Shared) (σ : St) (H : Hp) (S : Sto) (x y : D) (xv yv : V) (v u : Value) (P : PD), Inv X pins σ H s → RelV xv v → RelV yv u → Rep X.K H xv x → Rep X.K H yv y → RepS X.K H S → o x y S P → StepsE X pins σ H P (f v u) s
def D1 (X : Cx) (f : Value → Sem Value) (o : O1) : Prop :=
  ∀ (pins : List (Addr × Obj)) (s : Shared) (σ : St) (H : Hp) (S : Sto) (x : D) (xv : V) (v : Value) (P : PD), Inv X pins σ H s → RelV xv v → Rep X.K H xv x → RepS X.K H S → o x S P → StepsE X pins σ H P (f v) s
def DN (X : Cx) (f : List Value → Sem Value) (o : ON) : Prop :=
  ∀ (pins : List (Addr × Obj)) (s : Shared) (σ : St) (H : Hp) (S : Sto) (xs : List D) (xvs : List V) (us : List Value) (P : PD), Inv X pins σ H s → Vals xvs us → RepL X.K H xvs xs → RepS X.K H S → o xs S P → StepsE X pins σ H P (f us) s
section
variable {X : Cx} {W : WX} {a b c e : Expr} {es : List Expr} {pos : Pos} {wa wb wc : WE} {was : WA}
theorem D2.op {op : Operator} {o : O2} (h : D2 X (binaryOp op) o) : OpR X (binaryOp op) (fun x y H Q => ∃ dx dy S P, Rep X.K H x dx ∧ Rep X.K H y dy ∧ RepS X.K H S ∧ o dx dy S P ∧ okE X.K H P Q) :=
  fun pins s σ H x y v u Q I rx ry ⟨dx, dy, S, P, r1, r2, rs, ho, hq⟩ => h pins s σ H S dx dy x y v u P I rx ry r1 r2 rs ho Q hq
theorem D2.cmp {op : CmpOp} {o : O2} (h : D2 X (compareOp op) o) : OpR X (compareOp op) (fun x y H Q => ∃ dx dy S P, Rep X.K H x dx ∧ Rep X.K H y dy ∧ RepS X.K H S ∧ o dx dy S P ∧ okE X.K H P Q) :=
  fun pins s σ H x y v u Q I rx ry ⟨dx, dy, S, P, r1, r2, rs, ho, hq⟩ => h pins s σ H S dx dy x y v u P I rx ry r1 r2 rs ho Q hq
def wVar (i : Nat) : WE := fun env S P _ => match env[i]? with
  | some (some d) => P d S
  | _ => False
def wC (d : D) : WE := fun _ S P _ => P d S
def w2 (o : O2) (wa wb : WE) : WE := fun env S P X => wa env S (fun x S1 => wb env S1 (fun y S2 => o x y S2 P) X) X
def w1 (o : O1) (wa : WE) : WE := fun env S P X => wa env S (fun x S1 => o x S1 P) X
theorem ie_var {i : Nat} {x : Str} (hN : X.N[i]? = some x) (hv : Vis X.env.scope x) (hd : (x == ("__debug__" : Str)) = false) (hcd : (x == ("__classdict__" : Str)) = false) : IE X W (.Name x pos) (wVar i) :=
  (pe_var hN hv hd hcd).of fun σ H Q ⟨env, S, P, PX, re, rs, h, hq, _⟩ => by
    unfold wVar at h
    split at h
    · rename_i d e
      obtain ⟨v, h1, h2⟩ := re.get i d e
      exact ⟨v, h1, hq.here h h2 rs⟩
    · exact h.elim
theorem ie_int {i : Int} {j : Nat} : IE X W (.Constant (.int i) j pos) (wC (.int i)) := pe_int.of fun σ H Q ⟨env, S, P, PX, re, rs, h, hq, _⟩ => hq.here h (.int i) rs
theorem ie_bl {i : Bool} {j : Nat} : IE X W (.Constant (.bool i) j pos) (wC (.bl i)) := pe_bl.of fun σ H Q ⟨env, S, P, PX, re, rs, h, hq, _⟩ => hq.here h (.bl i) rs
theorem ie_non {j : Nat} : IE X W (.Constant .none j pos) (wC .non) := pe_non.of fun σ H Q ⟨env, S, P, PX, re, rs, h, hq, _⟩ => hq.here h .non rs
theorem ie_str {x : Str} {j : Nat} : IE X W (.Constant (.str x) j pos) (wC (.str x)) := pe_str.of fun σ H Q ⟨env, S, P, PX, re, rs, h, hq, _⟩ => hq.here h (.str x) rs
/-- the two parts of a binary step -/
theorem two {r : R2} {o : O2} (hr : ∀ x y H Q, (∃ dx dy S P, Rep X.K H x dx ∧ Rep X.K H y dy ∧ RepS X.K H S ∧ o dx dy S P ∧ okE X.K H P Q) → r x y H Q) (σ : St) (H : Hp) (Q : VK) (h : tE X.K X.mg W (w2 o wa wb) σ H Q) :
    tOp r (tE X.K X.mg W wa) (tE X.K X.mg W wb) σ H Q := by
  obtain ⟨env, S, P, PX, re, rs, h, hq, hx⟩ := h
  exact ⟨env, S, _, PX, re, rs, h, fun d1 S1 v1 H1 p1 e1 r1 s1 => ⟨env, S1, _, PX, re.ext e1, s1, p1, fun d2 S2 v2 H2 p2 e2 r2 s2 => hr _ _ _ _ ⟨d1, d2, S2, P, r1.ext e2, r2, s2, p2, hq.ext (e1.trans e2)⟩, hx.ext e1⟩, hx⟩
theorem ie_op {op : Operator} {o : O2} (ho : D2 X (binaryOp op) o) (ha : IE X W a wa) (hb : IE X W b wb) : IE X W (.BinOp a op b pos) (w2 o wa wb) :=
  (pe_op ho.op ha hb).of fun σ H Q h => two (fun _ _ _ _ z => z) σ H Q h
theorem ie_cmp {op : CmpOp} {o : O2} (ho : D2 X (compareOp op) o) (ha : IE X W a wa) (hb : IE X W b wb) (hm : behindInMarks op b = false) : IE X W (.Compare a [op] [b] pos) (w2 o wa wb) :=
  (pe_cmpR ho.cmp ha hb hm).of fun σ H Q h => two (fun _ _ _ _ z => z) σ H Q h
theorem ie_un {op : UnaryOp} {o : O1} (ho : D1 X (unaryOp op) o) (ha : IE X W a wa) : IE X W (.UnaryOp op a pos) (w1 o wa) :=
  (pe_un (r := fun x H Q => ∃ dx S P, Rep X.K H x dx ∧ RepS X.K H S ∧ o dx S P ∧ okE X.K H P Q) (fun pins s σ H x v Q I rx ⟨dx, S, P, r1, rs, ho', hq⟩ => ho pins s σ H S dx x v P I rx r1 rs ho' Q hq) ha).of fun σ H Q ⟨env, S, P, PX, re, rs, h, hq, hx⟩ =>
    ⟨env, S, _, PX, re, rs, h, fun d1 S1 v1 H1 p1 e1 r1 s1 => ⟨d1, S1, P, r1, s1, p1, hq.ext e1⟩, hx⟩
/-! tests -/
/-- a bool's answer -/
def wBl (w : WE) : WB := fun env S P X => w env S (fun d S' => match d with
  | .bl k => P k S'
  | _ => False) X
theorem bl_of {d : D} {P : Bool → Sto → Prop} {S : Sto} (h : match d with
  | .bl k => P k S
  | _ => False) : ∃ k, d = .bl k ∧ P k S := by
  cases d with
  | bl k => exact ⟨k, rfl, h⟩
  | _ => exact h.elim
theorem it_of {t : TE} (h : PE X e t) (ht : PT X e (fun σ H Q => t σ H fun x H' => ∃ k, x = .bl k ∧ Q k H')) (hE : t = tE X.K X.mg W wa) : IT X W e (wBl wa) := by
  subst hE
  refine ht.of fun σ H Q ⟨env, S, P, PX, re, rs, h, hq, hx⟩ => ?_
  refine ⟨env, S, _, PX, re, rs, h, fun d S' v H' p e1 r s => ?_, hx⟩
  obtain ⟨k, rfl, q⟩ := bl_of p
  cases r
  exact ⟨k, rfl, hq k S' H' q e1 s⟩
theorem it_cmp {op : CmpOp} {o : O2} (ho : D2 X (compareOp op) o) (ha : IE X W a wa) (hb : IE X W b wb) (hm : behindInMarks op b = false) : IT X W (.Compare a [op] [b] pos) (wBl (w2 o wa wb)) := by
  refine (pt_cmpR ho.cmp ha hb hm).of fun σ H Q ⟨env, S, P, PX, re, rs, h, hq, hx⟩ => ?_
  refine two (o := o) (wa := wa) (wb := wb) (fun _ _ _ _ z => z) σ H _ ⟨env, S, _, PX, re, rs, h, fun d S' v H' p e1 r s => ?_, hx⟩
  obtain ⟨k, rfl, q⟩ := bl_of p
  cases r
  exact ⟨k, rfl, hq k S' H' q e1 s⟩
def wAndB (u v : WB) : WB := fun env S P X => u env S (fun k S1 => if k = true then v env S1 P X else P false S1) X
def wOrB (u v : WB) : WB := fun env S P X => u env S (fun k S1 => if k = true then P true S1 else v env S1 P X) X
def wNotB (u : WB) : WB := fun env S P X => u env S (fun k S1 => P (!k) S1) X
variable {ua ub : WB} {rest : List Expr}
abbrev IW (X : Cx) (W : WX) (e : Expr) (w : WB) : Prop := PW X e (tT X.K X.mg W w)
theorem _root_.L2.PW.of {X : Cx} {e : Expr} {t u : TT} (h : PW X e t) (i : ∀ σ H Q, u σ H Q → t σ H Q) : PW X e u := ⟨fun wh pins s σ H Q I q => h.run wh pins s σ H Q I (i σ H Q q)⟩
theorem iw_and1 (ha : IT X W a ua) : IW X W (.BoolOp .And [a] pos) ua := pw_and1 ha
theorem iw_or1 (ha : IT X W a ua) : IW X W (.BoolOp .Or [a] pos) ua := pw_or1 ha
theorem iw_and (ha : IT X W a ua) (hb : IW X W (.BoolOp .And (b :: rest) pos) ub) : IW X W (.BoolOp .And (a :: b :: rest) pos) (wAndB ua ub) :=
  (pw_and ha hb).of fun σ H Q ⟨env, S, P, PX, re, rs, h, hq, hx⟩ => ⟨env, S, _, PX, re, rs, h, fun k S1 H1 p e1 s1 => match k, p with
    | true, p => ⟨env, S1, P, PX, re.ext e1, s1, p, hq.ext e1, hx.ext e1⟩
    | false, p => hq _ S1 H1 p e1 s1, hx⟩
theorem iw_or (ha : IT X W a ua) (hb : IW X W (.BoolOp .Or (b :: rest) pos) ub) : IW X W (.BoolOp .Or (a :: b :: rest) pos) (wOrB ua ub) :=
  (pw_or ha hb).of fun σ H Q ⟨env, S, P, PX, re, rs, h, hq, hx⟩ => ⟨env, S, _, PX, re, rs, h, fun k S1 H1 p e1 s1 => match k, p with
    | true, p => hq _ S1 H1 p e1 s1
    | false, p => ⟨env, S1, P, PX, re.ext e1, s1, p, hq.ext e1, hx.ext e1⟩, hx⟩
theorem it_not (ha : IT X W a ua) : IT X W (.UnaryOp .Not a pos) (wNotB ua) :=
  (pt_not ha).of fun σ H Q ⟨env, S, P, PX, re, rs, h, hq, hx⟩ => ⟨env, S, _, PX, re, rs, h, fun k S1 H1 p e1 s1 => hq _ S1 H1 p e1 s1, hx⟩
/-! .. as values -/
def wAndV (wa wb : WE) : WE := fun env S P X => wa env S (fun d S1 => match d with
  | .bl k => if k = true then wb env S1 P X else P (.bl false) S1
  | _ => False) X
def wOrV (wa wb : WE) : WE := fun env S P X => wa env S (fun d S1 => match d with
  | .bl k => if k = true then P (.bl true) S1 else wb env S1 P X
  | _ => False) X
def wNotV (wa : WE) : WE := fun env S P X => wa env S (fun d S1 => match d with
  | .bl k => P (.bl (!k)) S1
  | _ => False) X
theorem ie_one {op : BoolOp} (h : IE X W a wa) : IE X W (.BoolOp op [a] pos) wa := pe_one h
theorem ie_and (ha : IE X W a wa) (hb : IE X W (.BoolOp .And (b :: rest) pos) wb) : IE X W (.BoolOp .And (a :: b :: rest) pos) (wAndV wa wb) :=
  (pe_and ha hb).of fun σ H Q ⟨env, S, P, PX, re, rs, h, hq, hx⟩ => ⟨env, S, _, PX, re, rs, h, fun d S1 v1 H1 p e1 r1 s1 => by
    cases d with
    | bl k =>
      cases r1
      exact ⟨k, rfl, match k, p with
        | true, p => ⟨env, S1, P, PX, re.ext e1, s1, p, hq.ext e1, hx.ext e1⟩
        | false, p => hq _ S1 _ H1 p e1 (.bl _) s1⟩
    | _ => exact p.elim, hx⟩
theorem ie_or (ha : IE X W a wa) (hb : IE X W (.BoolOp .Or (b :: rest) pos) wb) : IE X W (.BoolOp .Or (a :: b :: rest) pos) (wOrV wa wb) :=
  (pe_or ha hb).of fun σ H Q ⟨env, S, P, PX, re, rs, h, hq, hx⟩ => ⟨env, S, _, PX, re, rs, h, fun d S1 v1 H1 p e1 r1 s1 => by
    cases d with
    | bl k =>
      cases r1
      exact ⟨k, rfl, match k, p with
        | true, p => hq _ S1 _ H1 p e1 (.bl _) s1
        | false, p => ⟨env, S1, P, PX, re.ext e1, s1, p, hq.ext e1, hx.ext e1⟩⟩
    | _ => exact p.elim, hx⟩
theorem ie_not (ha : IE X W a wa) : IE X W (.UnaryOp .Not a pos) (wNotV wa) :=
  (pe_not ha).of fun σ H Q ⟨env, S, P, PX, re, rs, h, hq, hx⟩ => ⟨env, S, _, PX, re, rs, h, fun d S1 v1 H1 p e1 r1 s1 => by
    cases d with
    | bl k => cases r1; exact ⟨k, rfl, hq _ S1 _ H1 p e1 (.bl _) s1⟩
    | _ => exact p.elim, hx⟩
def wIf (u : WB) (wa wb : WE) : WE := fun env S P X => u env S (fun k S1 => if k = true then wa env S1 P X else wb env S1 P X) X
theorem ie_if (hc : IT X W c ua) (ha : IE X W a wa) (hb : IE X W b wb) : IE X W (.IfExp c a b pos) (wIf ua wa wb) :=
  (pe_ifExp hc ha hb).of fun σ H Q ⟨env, S, P, PX, re, rs, h, hq, hx⟩ => ⟨env, S, _, PX, re, rs, h, fun k S1 H1 p e1 s1 => match k, p with
    | true, p => ⟨env, S1, P, PX, re.ext e1, s1, p, hq.ext e1, hx.ext e1⟩
    | false, p => ⟨env, S1, P, PX, re.ext e1, s1, p, hq.ext e1, hx.ext e1⟩, hx⟩
/-! arguments and displays -/
def wNil : WA := fun _ S P _ => P [] S
def wCons (w : WE) (r : WA) : WA := fun env S P X => w env S (fun d S1 => r env S1 (fun ds S2 => P (d :: ds) S2) X) X
theorem ia_nil : IA X W [] wNil := pa_nil.of fun σ H Q ⟨env, S, P, PX, re, rs, h, hq, hx⟩ => hq [] S [] H h rfl (Ext.refl H) .nil rs
theorem ia_cons (ha : IE X W e wa) (hr : IA X W es was) (hs : starEach (e :: es) X.env = (false, eval e X.env) :: starEach es X.env) : IA X W (e :: es) (wCons wa was) :=
  (pa_cons ha hr hs).of fun σ H Q ⟨env, S, P, PX, re, rs, h, hq, hx⟩ => ⟨env, S, _, PX, re, rs, h, fun d S1 v1 H1 p e1 r1 s1 => ⟨env, S1, _, PX, re.ext e1, s1, p, fun ds S2 vs H2 p2 l2 e2 r2 s2 => hq _ S2 _ H2 p2 (by rw [List.length_cons, l2]; rfl) (e1.trans e2) (.cons (r1.ext e2) r2) s2, hx.ext e1⟩, hx⟩
def wTup (w : WA) : WE := fun env S P X => w env S (fun ds S1 => ds.length ≤ sizeLine ∧ P (.tup ds) S1) X
/-- a list that no one will change -/
def wLst (w : WA) : WE := fun env S P X => w env S (fun ds S1 => ds.length ≤ sizeLine ∧ P (.lst ds) S1) X
/-- a list that may be changed -/
def wNew (w : WA) : WE := fun env S P X => w env S (fun ds S1 => ds.length ≤ sizeLine ∧ ∀ p, S1 p = none → P (.ref p) (sput S1 p (.lst ds))) X
theorem ie_tup {k : Nat} (h : IA X W es was) : IE X W (.Tuple es k pos) (wTup was) :=
  (pe_tup h).of fun σ H Q ⟨env, S, P, PX, re, rs, h, hq, hx⟩ => ⟨env, S, _, PX, re, rs, h, fun ds S1 vs H1 p _ e1 r1 s1 => ⟨by rw [r1.length]; exact p.1, fun a ha => hq _ S1 _ _ p.2 (e1.trans (Ext.new ha)) (.tup (.of upd_same) (r1.ext (Ext.new ha))) (s1.new ha)⟩, hx⟩
theorem ie_new (h : IA X W es was) : IE X W (.List es pos) (wNew was) :=
  (pe_lst h).of fun σ H Q ⟨env, S, P, PX, re, rs, h, hq, hx⟩ => ⟨env, S, _, PX, re, rs, h, fun ds S1 vs H1 p _ e1 r1 s1 => ⟨by rw [r1.length]; exact p.1, fun a ha => hq _ _ _ _ (p.2 a (s1.free ha)) (e1.trans (Ext.new ha)) (.ref a) (s1.newL ha r1)⟩, hx⟩
/-- a tracked list is locked for good -/
theorem freeze {pins : List (Addr × Obj)} {σ : St} {H : Hp} {s : Shared} {p : Addr} {xs : List V} (I : Inv X pins σ H s) (h : H p = some (.lst xs)) : ∃ o, Inv X pins σ (upd H p (.frz o (.lst xs))) s := by
  have ok := I.hok p _ h
  obtain ⟨z, its, n, r, e⟩ := id ok
  generalize eo : ({ cls := .type "list", data := .seq its.toArray n } : Obj) = o at e
  have ne : ∀ {b : Addr} {u : HO}, H b = some u → HO.lst xs ≠ u → b ≠ p := fun {b u} q d z => by
    rw [z, h] at q
    exact d (Option.some.inj q)
  have nn : ∀ {b : Addr}, H b = none → b ≠ p := fun {b} q z => by
    rw [z, h] at q
    cases q
  have bs : Un X.fs X.ex X.H_0 (upd H p (.frz o (.lst xs))) X.s_0.heap s.heap :=
    { keep := I.base.keep
      slot := I.base.slot
      free := fun b ob q n hx => by
        have f := I.base.free b ob q n hx
        rw [upd_ne (nn f)]
        exact f
      there := I.base.there
      tups := fun b ys q => by
        have f := I.base.tups b ys q
        rw [upd_ne (ne f (fun z => by cases z))]
        exact f
      frzs := fun b ob u q => by
        have f := I.base.frzs b ob u q
        rw [upd_ne (ne f (fun z => by cases z))]
        exact f
      tbls := fun b ps q => by
        obtain ⟨m, f⟩ := I.base.tbls b ps q
        exact ⟨m, by rw [upd_ne (ne f (fun z => by cases z))]; exact f⟩ }
  have hk : HOk X.prog X.w (upd H p (.frz o (.lst xs))) s.heap := fun b u q => by
    by_cases hb : b = p
    · subst hb
      rw [upd_same] at q
      cases q
      exact ⟨e, ok⟩
    · rw [upd_ne hb] at q
      exact (I.hok b u q).stay (fun c v _ g => g) (fun c g => by rw [upd_ne (ne g (fun z => by cases z))]; exact g) fun c ys g => by rw [upd_ne (ne g (fun z => by cases z))]; exact g
  exact ⟨o,
    { ok := I.ok
      os := I.os
      bare := I.bare
      base := bs
      loc := I.loc
      cell := I.cell
      free := by rw [upd_ne (nn I.free)]; exact I.free
      freeC := fun x c q => by rw [upd_ne (nn (I.freeC x c q))]; exact I.freeC x c q
      pin := fun q hq => by
        obtain ⟨e1, n1, r1⟩ := I.pin q hq
        exact ⟨e1, by rw [upd_ne (nn n1)]; exact n1, r1⟩
      hok := hk
      len := I.len }⟩
theorem ie_lst (h : IA X W es was) : IE X W (.List es pos) (wLst was) := by
  refine ⟨fun pins s σ H Q I ⟨env, S, P, PX, re, rs, hw, hq, hx⟩ => ?_⟩
  refine thn ((pe_lst h).run pins s σ H (fun v H' => ∃ p ds vs H1 S1, v = .ref p ∧ H1 p = none ∧ H' = upd H1 p (.lst vs) ∧ RepL X.K H1 vs ds ∧ RepS X.K H1 S1 ∧ Ext H H1 ∧ P (.lst ds) S1) I ⟨env, S, _, PX, re, rs, hw, fun ds S1 vs H1 p _ e1 r1 s1 => ⟨by rw [r1.length]; exact p.1, fun a ha => ⟨a, ds, vs, H1, S1, rfl, ha, rfl, r1, s1, e1, p.2⟩⟩, hx⟩) fun u s1 ⟨v, H', I', rv, p, ds, vs, H1, S1, ev, np, eH, r1, s1', e1, q⟩ => ?_
  subst ev; subst eH
  obtain ⟨o, J⟩ := freeze I' upd_same
  rw [upd_upd] at J
  exact ⟨.ref p, _, J, rv, hq _ S1 _ _ q (e1.trans (Ext.new np)) (.lst (.inl ⟨o, upd_same⟩) (r1.ext (Ext.new np))) (s1'.new np)⟩
end
end PL
namespace PL
open PySem PySem.Spec L2
/-! ### data without references -/
mutual
def toP : D → PyData
  | .non => .none
  | .bl b => .bool b
  | .int i => .int i
  | .str x => .str x
  | .tup ds => .tuple (toPL ds)
  | .lst ds => .list (toPL ds)
  | .ref _ => .none
  | .obj _ _ _ => .none
def toPL : List D → List PyData
  | [] => []
  | d :: ds => toP d :: toPL ds
end
mutual
def noref : D → Bool
  | .ref _ => false
  | .tup ds => norefL ds
  | .lst ds => norefL ds
  | .non => true
  | .bl _ => true
  | .int _ => true
  | .str _ => true
  | .obj _ _ _ => false
def norefL : List D → Bool
  | [] => true
  | d :: ds => noref d && norefL ds
end
section
variable {K : PySem.W.Frag} {H : Hp} {S : Sto}
mutual
theorem dp_of : ∀ {v : V} {d : D}, Rep K H v d → noref d = true → Dp K H v (toP d)
  | _, _, .non, _ => .non
  | _, _, .bl b, _ => .bl b
  | _, _, .int i, _ => .int i
  | _, _, .str x, _ => .str x
  | _, _, .ref a, h => by simp [noref] at h
  | _, .tup ds, .tup h r, n => .tup h (dpL_of r (by simpa [noref] using n))
  | _, .lst ds, .lst h r, n => .lst h.sql (dpL_of r (by simpa [noref] using n))
  | _, _, .obj _ _ _ _, n => by simp [noref] at n
theorem dpL_of : ∀ {vs : List V} {ds : List D}, RepL K H vs ds → norefL ds = true → DpAll K H vs (toPL ds)
  | _, _, .nil, _ => .nil
  | _, _ :: _, .cons r t, n => by
    have n' : _ ∧ _ := Bool.and_eq_true_iff.mp (by simpa [norefL] using n)
    exact .cons (dp_of r n'.1) (dpL_of t n'.2)
end
/-- a list that may change, as it is now -/
def res (S : Sto) (d : D) : D := match d with
  | .ref a => match S a with
    | some (.lst ds) => .lst ds
    | _ => d
  | _ => d
def okD (d : D) : Bool := noref d && SeqAt.shaped (toP d)
def eqD (a b : D) : Bool := PyData.eqv (toP a) (toP b)
theorem dp_res {v : V} {d : D} (r : Rep K H v d) (rs : RepS K H S) (h : okD (res S d) = true) : Dp K H v (toP (res S d)) ∧ SeqAt.shaped (toP (res S d)) = true := by
  have h' : _ ∧ _ := Bool.and_eq_true_iff.mp h
  refine ⟨?_, h'.2⟩
  have n := h'.1
  cases d with
  | ref a =>
    cases e : S a with
    | none =>
      have er : res S (.ref a) = .ref a := by simp only [res, e]
      rw [er] at n
      simp [noref] at n
    | some o =>
      cases o with
      | oth x =>
        have er : res S (.ref a) = .ref a := by simp only [res, e]
        rw [er] at n
        simp [noref] at n
      | lst ds =>
        have er : res S (.ref a) = .lst ds := by simp only [res, e]
        rw [er] at n ⊢
        obtain ⟨vs, q, t⟩ := rs a _ e
        cases r
        exact .lst (.of q) (dpL_of t (by simpa [noref] using n))
  | non => exact dp_of r n
  | bl _ => exact dp_of r n
  | int _ => exact dp_of r n
  | str _ => exact dp_of r n
  | tup _ => exact dp_of r n
  | lst _ => exact dp_of r n
  | obj _ _ _ => simp [res, noref] at n
/-- the items of a list or tuple -/
def seqOf (S : Sto) (d : D) : Option (List D) := match d with
  | .tup ds => some ds
  | .lst ds => some ds
  | .ref a => match S a with
    | some (.lst ds) => some ds
    | _ => none
  | _ => none
theorem seq_rep {v : V} {d : D} {ds : List D} (r : Rep K H v d) (rs : RepS K H S) (h : seqOf S d = some ds) : ∃ p vs, v = .ref p ∧ (SqL K H p vs ∨ SqT K H p vs) ∧ RepL K H vs ds := by
  cases r with
  | tup h' r' => cases h; exact ⟨_, _, rfl, .inr h', r'⟩
  | lst h' r' => cases h; exact ⟨_, _, rfl, .inl h'.sql, r'⟩
  | ref a =>
    unfold seqOf at h
    cases e : S a with
    | none => simp [e] at h
    | some o =>
      cases o with
      | oth x => simp [e] at h
      | lst es =>
        simp [e] at h
        subst h
        obtain ⟨vs, q, t⟩ := rs a _ e
        exact ⟨_, _, rfl, .inl (.of q), t⟩
  | non => cases h
  | bl _ => cases h
  | int _ => cases h
  | str _ => cases h
  | obj _ _ _ _ => cases h
end
/-! ### operators -/
def oAdd : O2 := fun x y S P => match x, y with
  | .int i, .int j => P (.int (i + j)) S
  | .str i, .str j => i.length + j.length ≤ sizeLine ∧ P (.str (i ++ j)) S
  | .tup i, .tup j => i.length + j.length ≤ sizeLine ∧ P (.tup (i ++ j)) S
  | .lst i, .lst j => i.length + j.length ≤ sizeLine ∧ P (.lst (i ++ j)) S
  | _, _ => False
def oSub : O2 := fun x y S P => match x, y with
  | .int i, .int j => P (.int (i - j)) S
  | _, _ => False
def oMul : O2 := fun x y S P => match x, y with
  | .int i, .int j => CMulW i j ∧ P (.int (i * j)) S
  | _, _ => False
def oDiv : O2 := fun x y S P => match x, y with
  | .int i, .int j => CDivW i j ∧ P (.int (i / j)) S
  | _, _ => False
def oMod : O2 := fun x y S P => match x, y with
  | .int i, .int j => 0 < j ∧ P (.int (i % j)) S
  | _, _ => False
def oPow : O2 := fun x y S P => match x, y with
  | .int i, .int j => CPow i j ∧ P (.int (i ^ j.toNat)) S
  | _, _ => False
def oNeg : O1 := fun x S P => match x with
  | .int i => P (.int (-i)) S
  | _ => False
def oCmpI (f : Int → Int → Bool) : O2 := fun x y S P => match x, y with
  | .int i, .int j => P (.bl (f i j)) S
  | _, _ => False
def oEq : O2 := fun x y S P => match x, y with
  | .str a, .str b => P (.bl (decide (a = b))) S
  | x, y => okD (res S x) = true ∧ okD (res S y) = true ∧ P (.bl (eqD (res S x) (res S y))) S
def oNe : O2 := fun x y S P => match x, y with
  | .str a, .str b => P (.bl (!decide (a = b))) S
  | x, y => okD (res S x) = true ∧ okD (res S y) = true ∧ P (.bl (!eqD (res S x) (res S y))) S
def isNon : D → Bool
  | .non => true
  | _ => false
def oIs : O2 := fun x y S P => match y with
  | .non => P (.bl (isNon x)) S
  | .bl b => match x with
    | .bl a => P (.bl (decide (a = b))) S
    | _ => False
  | _ => False
def oIsNot : O2 := fun x y S P => match y with
  | .non => P (.bl (!isNon x)) S
  | .bl b => match x with
    | .bl a => P (.bl (!decide (a = b))) S
    | _ => False
  | _ => False
section
variable {X : Cx}
/-- a new list is laid, and locked -/
theorem new_lst {pins : List (Addr × Obj)} {σ : St} {H : Hp} {s : Shared} {S : Sto} {P : PD} {m : Sem Value} {vs : List V} {ds : List D}
    (h : ∀ Q : VK, (∀ p, H p = none → Q (.ref p) (upd H p (.lst vs))) → wpAny (model X.prog X.w) X.A m (EP X pins σ Q) X.xe s) (r : RepL X.K H vs ds) (rs : RepS X.K H S) (p : P (.lst ds) S) : StepsE X pins σ H P m s := by
  intro Q hq
  refine thn (h (fun v H' => ∃ p, v = .ref p ∧ H p = none ∧ H' = upd H p (.lst vs)) fun p np => ⟨p, rfl, np, rfl⟩) fun u s1 ⟨v, H', I', rv, p, ev, np, eH⟩ => ?_
  subst ev; subst eH
  obtain ⟨o, J⟩ := freeze I' upd_same
  rw [upd_upd] at J
  exact ⟨.ref p, _, J, rv, hq _ S _ _ (by assumption) (Ext.new np) (.lst (.inl ⟨o, upd_same⟩) (r.ext (Ext.new np))) (rs.new np)⟩
theorem fz_list {pins : List (Addr × Obj)} {σ : St} {H : Hp} {s : Shared} {a : Addr} {xs : List V} (I : L2.Inv X pins σ H s) (h : FzL X.K H a xs) : ∃ its : List Value, Vals xs its ∧ PlainL s.heap a its.toArray ∧ xs.length ≤ sizeLine := I.list h.sql
theorem d_add : D2 X (binaryOp .Add) oAdd := by
  intro pins s σ H S x y xv yv v u P I rx ry r1 r2 rs h Q hq
  cases r1 with
  | int i =>
    cases r2 with
    | int j => exact op_add pins s σ H _ _ v u Q I rx ry ⟨i, j, rfl, rfl, hq.here h (.int _) rs⟩
    | _ => exact h.elim
  | str i =>
    cases r2 with
    | str j => exact op_add_str pins s σ H _ _ v u Q I rx ry ⟨i, j, rfl, rfl, h.1, hq.here h.2 (.str _) rs⟩
    | _ => exact h.elim
  | tup h1 t1 =>
    cases r2 with
    | tup h2 t2 =>
      obtain ⟨hz, q⟩ := h
      refine op_catA pins s σ H _ _ v u Q I rx ry ⟨_, _, _, _, rfl, rfl, h1, h2, by rw [t1.length, t2.length]; exact hz, fun z => ?_, fun _ z => ?_, fun _ _ p np => ?_⟩
      · subst z; cases t1
        exact hq.here q (.tup h2 t2) rs
      · subst z; cases t2; rw [List.append_nil] at q
        exact hq.here q (.tup h1 t1) rs
      · exact hq _ S _ _ q (Ext.new np) (.tup (.of upd_same) ((t1.append t2).ext (Ext.new np))) (rs.new np)
    | _ => exact h.elim
  | lst h1 t1 =>
    cases r2 with
    | lst h2 t2 =>
      obtain ⟨hz, q⟩ := h
      obtain ⟨i1, v1, l1, z1⟩ := fz_list I h1
      obtain ⟨i2, v2, l2, z2⟩ := fz_list I h2
      cases rx
      cases ry
      have len1 := v1.length
      have len2 := v2.length
      have len3 := t1.length
      have len4 := t2.length
      refine new_lst (S := S) (P := P) (vs := _ ++ _) (fun Q' hq' => ?_) (t1.append t2) rs q Q hq
      obtain ⟨⟨cl, dd, da, sl⟩, n, ho, hc, hdi, hd⟩ := l1
      obtain ⟨⟨cl2, dd2, da2, sl2⟩, n2, ho2, hc2, hdi2, hd2⟩ := l2
      simp only at hc hd hc2 hd2
      subst hc hd hc2 hd2
      refine concat_meets ⟨_, ho, rfl⟩ ⟨_, ho2, rfl⟩ noFill_list_add seq_list_add PySem.F.slot_list_add PySem.F.entry_list_add (PySem.F.args_list_add_2 _ _) (PyProof.Rows.list_addW _ _ i1.toArray i2.toArray n n2 dd dd2 sl sl2 (by rw [List.size_toArray, List.size_toArray]; omega)) ⟨ho, ho2, ?_⟩
      have e : i1.toArray ++ i2.toArray = (i1 ++ i2).toArray := by simp
      rw [e]
      exact ⟨.ref _, _, I.lnew (t' := s.toks) (v1.append v2) (by rw [List.length_append]; omega), rfl, hq' _ I.fresh⟩
    | _ => exact h.elim
  | _ => exact h.elim
theorem d_ii {f : Value → Value → Sem Value} {C : Int → Int → Prop} {g : Int → Int → V} {o : O2} (ho : OpR X f (rI C g)) (hs : ∀ x y S P, o x y S P → ∃ i j d, x = .int i ∧ y = .int j ∧ C i j ∧ P d S ∧ ∀ K H, Rep K H (g i j) d) : D2 X f o := by
  intro pins s σ H S x y xv yv v u P I rx ry r1 r2 rs h Q hq
  obtain ⟨i, j, d, rfl, rfl, c, p, rd⟩ := hs x y S P h
  cases r1; cases r2
  exact ho pins s σ H _ _ v u Q I rx ry ⟨i, j, rfl, rfl, c, hq.here p (rd _ _) rs⟩
theorem d_i0 {f : Value → Value → Sem Value} {g : Int → Int → V} {o : O2} (ho : OpR X f (rI0 g)) (hs : ∀ x y S P, o x y S P → ∃ i j d, x = .int i ∧ y = .int j ∧ P d S ∧ ∀ K H, Rep K H (g i j) d) : D2 X f o := by
  intro pins s σ H S x y xv yv v u P I rx ry r1 r2 rs h Q hq
  obtain ⟨i, j, d, rfl, rfl, p, rd⟩ := hs x y S P h
  cases r1; cases r2
  exact ho pins s σ H _ _ v u Q I rx ry ⟨i, j, rfl, rfl, hq.here p (rd _ _) rs⟩
theorem d_sub : D2 X (binaryOp .Sub) oSub := d_i0 op_sub fun x y S P h => by
  cases x <;> first | exact h.elim | skip
  cases y <;> first | exact h.elim | exact ⟨_, _, _, rfl, rfl, h, fun _ _ => .int _⟩
theorem d_mul : D2 X (binaryOp .Mult) oMul := d_ii op_mulW fun x y S P h => by
  cases x <;> first | exact h.elim | skip
  cases y <;> first | exact h.elim | exact ⟨_, _, _, rfl, rfl, h.1, h.2, fun _ _ => .int _⟩
theorem d_div : D2 X (binaryOp .FloorDiv) oDiv := d_ii op_fdivW fun x y S P h => by
  cases x <;> first | exact h.elim | skip
  cases y <;> first | exact h.elim | exact ⟨_, _, _, rfl, rfl, h.1, h.2, fun _ _ => .int _⟩
theorem d_mod : D2 X (binaryOp .Mod) oMod := d_ii op_mod fun x y S P h => by
  cases x <;> first | exact h.elim | skip
  cases y <;> first | exact h.elim | exact ⟨_, _, _, rfl, rfl, h.1, h.2, fun _ _ => .int _⟩
theorem d_pow : D2 X (binaryOp .Pow) oPow := d_ii op_pow fun x y S P h => by
  cases x <;> first | exact h.elim | skip
  cases y <;> first | exact h.elim | exact ⟨_, _, _, rfl, rfl, h.1, h.2, fun _ _ => .int _⟩
theorem d_neg : D1 X (unaryOp .USub) oNeg := by
  intro pins s σ H S x xv v P I rx r1 rs h Q hq
  cases r1 with
  | int i => exact un_neg pins s σ H _ v Q I rx ⟨i, rfl, hq.here h (.int _) rs⟩
  | _ => exact h.elim
theorem d_cmpI {op : CmpOp} {f : Int → Int → Bool} (ho : OpR X (compareOp op) (rI0 fun i j => .bl (f i j))) : D2 X (compareOp op) (oCmpI f) := d_i0 ho fun x y S P h => by
  cases x <;> first | exact h.elim | skip
  cases y <;> first | exact h.elim | exact ⟨_, _, _, rfl, rfl, h, fun _ _ => .bl _⟩
theorem d_lt : D2 X (compareOp .Lt) (oCmpI fun i j => decide (i < j)) := d_cmpI op_lt
theorem d_le : D2 X (compareOp .LtE) (oCmpI fun i j => decide (i ≤ j)) := d_cmpI op_le
theorem d_gt : D2 X (compareOp .Gt) (oCmpI fun i j => decide (j < i)) := d_cmpI op_gt
theorem d_ge : D2 X (compareOp .GtE) (oCmpI fun i j => decide (j ≤ i)) := d_cmpI op_ge
theorem dec_strV {i j : Str} : decide (V.str i = V.str j) = decide (i = j) := by
  rw [Bool.eq_iff_iff]
  simp
theorem d_eq (hu : X.A.units + 64 < cLine) : D2 X (compareOp .Eq) oEq := by
  intro pins s σ H S x y xv yv v u P I rx ry r1 r2 rs h Q hq
  have gen : okD (res S x) = true ∧ okD (res S y) = true ∧ P (.bl (eqD (res S x) (res S y))) S → _ := fun h => by
    obtain ⟨h1, s1⟩ := dp_res r1 rs h.1
    obtain ⟨h2, s2⟩ := dp_res r2 rs h.2.1
    exact op_eqD hu pins s σ H _ _ v u Q I rx ry ⟨_, _, h1, h2, s1, s2, hq.here h.2.2 (.bl _) rs⟩
  cases x with
  | str a =>
    cases y with
    | str b =>
      cases r1; cases r2
      exact op_eq pins s σ H _ _ v u Q I rx ry ⟨rfl, hq.here (d := .bl _) (by rw [dec_strV]; exact h) (.bl _) rs⟩
    | _ => exact gen h
  | _ => exact gen h
theorem d_ne (hu : X.A.units + 64 < cLine) : D2 X (compareOp .NotEq) oNe := by
  intro pins s σ H S x y xv yv v u P I rx ry r1 r2 rs h Q hq
  have gen : okD (res S x) = true ∧ okD (res S y) = true ∧ P (.bl (!eqD (res S x) (res S y))) S → _ := fun h => by
    obtain ⟨h1, s1⟩ := dp_res r1 rs h.1
    obtain ⟨h2, s2⟩ := dp_res r2 rs h.2.1
    exact op_neD hu pins s σ H _ _ v u Q I rx ry ⟨_, _, h1, h2, s1, s2, hq.here h.2.2 (.bl _) rs⟩
  cases x with
  | str a =>
    cases y with
    | str b =>
      cases r1; cases r2
      exact op_ne pins s σ H _ _ v u Q I rx ry ⟨rfl, hq.here (d := .bl _) (by rw [dec_strV]; exact h) (.bl _) rs⟩
    | _ => exact gen h
  | _ => exact gen h
theorem isNon_rep {K : PySem.W.Frag} {H : Hp} {v : V} {d : D} (r : Rep K H v d) : decide (v = .non) = isNon d := by cases r <;> simp [isNon]
theorem d_is : D2 X (compareOp .Is) oIs := by
  intro pins s σ H S x y xv yv v u P I rx ry r1 r2 rs h Q hq
  cases r2 with
  | non => exact op_isN pins s σ H _ _ v u Q I rx ry ⟨rfl, hq.here (d := .bl _) (by rw [isNon_rep r1]; exact h) (.bl _) rs⟩
  | bl b =>
    cases r1 with
    | bl a => exact op_isBl pins s σ H _ _ v u Q I rx ry ⟨a, b, rfl, rfl, hq.here h (.bl _) rs⟩
    | _ => exact h.elim
  | _ => exact h.elim
theorem d_isnot : D2 X (compareOp .IsNot) oIsNot := by
  intro pins s σ H S x y xv yv v u P I rx ry r1 r2 rs h Q hq
  cases r2 with
  | non => exact op_notN pins s σ H _ _ v u Q I rx ry ⟨rfl, hq.here (d := .bl _) (by rw [isNon_rep r1]; exact h) (.bl _) rs⟩
  | bl b =>
    cases r1 with
    | bl a => exact op_notBl pins s σ H _ _ v u Q I rx ry ⟨a, b, rfl, rfl, hq.here h (.bl _) rs⟩
    | _ => exact h.elim
  | _ => exact h.elim
/-! ### a place -/
def oIdx : O2 := fun x y S P => match y with
  | .int i => match x with
    | .str z => z.length ≤ sizeLine ∧ (match atI z.cps.toList i with
      | some c => P (.str ⟨#[c]⟩) S
      | none => False)
    | _ => match seqOf S x with
      | some ds => (match atI ds i with
        | some d => P d S
        | none => False)
      | none => False
  | _ => False
theorem atI_rep {K : PySem.W.Frag} {H : Hp} {vs : List V} {ds : List D} (r : RepL K H vs ds) {i : Int} {d : D} (h : atI ds i = some d) : ∃ v, atI vs i = some v ∧ Rep K H v d := by
  unfold atI at h ⊢
  rw [r.length]
  cases e : ixN ds.length i with
  | none => rw [e] at h; cases h
  | some j =>
    rw [e] at h
    exact r.get h
variable {W : WX} {a b e : Expr} {wa wb : WE} {pos : Pos}
theorem oIdx_of {x : D} {i : Int} {S : Sto} {P : PD} (h : oIdx x (.int i) S P) : (∃ z c, x = .str z ∧ z.length ≤ sizeLine ∧ atI z.cps.toList i = some c ∧ P (.str ⟨#[c]⟩) S) ∨ ∃ ds d, seqOf S x = some ds ∧ atI ds i = some d ∧ P d S := by
  have seq : (match seqOf S x with
      | some ds => (match atI ds i with
        | some d => P d S
        | none => False)
      | none => False) → ∃ ds d, seqOf S x = some ds ∧ atI ds i = some d ∧ P d S := fun h => by
    cases e : seqOf S x with
    | none => rw [e] at h; exact h.elim
    | some ds =>
      rw [e] at h
      have h' : (match atI ds i with
        | some d => P d S
        | none => False) := h
      cases e2 : atI ds i with
      | none => rw [e2] at h'; exact h'.elim
      | some d => rw [e2] at h'; exact ⟨ds, d, rfl, e2, h'⟩
  cases x with
  | str z =>
    have h' : z.length ≤ sizeLine ∧ (match atI z.cps.toList i with
      | some c => P (.str ⟨#[c]⟩) S
      | none => False) := h
    cases e2 : atI z.cps.toList i with
    | none => rw [e2] at h'; exact h'.2.elim
    | some c => rw [e2] at h'; exact .inl ⟨z, c, rfl, h'.1, e2, h'.2⟩
  | _ => exact .inr (seq h)
theorem ie_idx (ha : IE X W a wa) (hb : IE X W b wb) (hs : PlainIx b) : IE X W (.Subscript a b pos) (w2 oIdx wa wb) :=
  (pe_ix ix_seq ha hb hs).of fun σ H Q h => two (fun x y H Q ⟨dx, dy, S, P, r1, r2, rs, ho, hq⟩ => by
    cases dy with
    | int i =>
      cases r2
      rcases oIdx_of ho with ⟨z, c, rfl, hz, ec, q⟩ | ⟨ds, d, es, ed, q⟩
      · cases r1
        exact .inr (.inr ⟨_, _, _, rfl, rfl, hz, ec, hq.here q (.str _) rs⟩)
      · obtain ⟨p, vs, rfl, hl, rl⟩ := seq_rep r1 rs es
        obtain ⟨v, ev, rv⟩ := atI_rep rl ed
        rcases hl with hl | hl
        · exact .inl ⟨p, vs, i, v, rfl, rfl, hl, ev, hq.here q rv rs⟩
        · exact .inr (.inl ⟨p, vs, i, v, rfl, rfl, hl, ev, hq.here q rv rs⟩)
    | _ => exact ho.elim) σ H Q h
end
end PL
namespace PL
open PySem PySem.Spec L2
/-! ### calls of built-ins, by data -/
section
variable {X : Cx} {W : WX} {a b e : Expr} {es : List Expr} {wa wb : WE} {was : WA} {pos p apos : Pos} {x : Str}
theorem DN.call {f : Value} {o : ON} (h : DN X (fun us => call f us) o) : CallR X f (fun xs H Q => ∃ ds S P, RepL X.K H xs ds ∧ RepS X.K H S ∧ o ds S P ∧ okE X.K H P Q) :=
  fun pins s σ H xs us Q I r ⟨ds, S, P, rl, rs, ho, hq⟩ => h pins s σ H S ds xs us P I r rl rs ho Q hq
def wN (o : ON) (was : WA) : WE := fun env S P X => was env S (fun ds S1 => o ds S1 P) X
theorem argsN {o : ON} (σ : St) (H : Hp) (Q : VK) (h : tE X.K X.mg W (wN o was) σ H Q) : tCB (fun xs H Q => ∃ ds S P, RepL X.K H xs ds ∧ RepS X.K H S ∧ o ds S P ∧ okE X.K H P Q) (tA X.K X.mg W (e :: es).length was) σ H Q := by
  obtain ⟨env, S, P, PX, re, rs, h, hq, hx⟩ := h
  exact ⟨env, S, _, PX, re, rs, h, fun ds S1 vs H1 p _ e1 r1 s1 => ⟨ds, S1, P, r1, s1, p, hq.ext e1⟩, hx⟩
theorem ie_blt {id : String} {o : ON} (hc : DN X (fun us => call (.builtin id) us) o) (hg : Gl X x) (hm : X.mg x = none) (hv : bootBuiltins x = some (.builtin id)) (ha : IA X W (e :: es) was) (hn : x ≠ "__name__") (hdb : (x == ("__debug__" : Str)) = false)
    (he : starEach (e :: es) X.env = (false, eval e X.env) :: starEach es X.env) (hpl : (backTo pos (starEach es X.env)).any (·.1) = false) : IE X W (.Call (.Name x p) (e :: es) [] pos) (wN o was) :=
  (pe_callB hc.call hg hm hv ha hn hdb he hpl).of fun σ H Q h => argsN σ H Q h
theorem ie_typ {T : String} {o : ON} (hc : DN X (fun us => call (.type T) us) o) (hg : Gl X x) (hm : X.mg x = none) (hv : bootBuiltins x = some (.type T)) (ha : IA X W (e :: es) was) (hn : x ≠ "__name__") (hdb : (x == ("__debug__" : Str)) = false)
    (he : starEach (e :: es) X.env = (false, eval e X.env) :: starEach es X.env) (hpl : (backTo pos (starEach es X.env)).any (·.1) = false) : IE X W (.Call (.Name x p) (e :: es) [] pos) (wN o was) :=
  (pe_callTy hc.call hg hm hv ha hn hdb he hpl).of fun σ H Q h => argsN σ H Q h
theorem ie_imp {id : String} {o : ON} (hc : DN X (fun us => call (.builtin id) us) o) (hg : Gl X x) (hm : X.mg x = some (.builtin id)) (ha : IA X W (e :: es) was) (hdb : (x == ("__debug__" : Str)) = false)
    (he : starEach (e :: es) X.env = (false, eval e X.env) :: starEach es X.env) (hpl : (backTo pos (starEach es X.env)).any (·.1) = false) : IE X W (.Call (.Name x p) (e :: es) [] pos) (wN o was) :=
  (pe_callBfun hc.call hg hm ha hdb he hpl).of fun σ H Q h => argsN σ H Q h
/-! the built-ins -/
def oAbs : ON := fun xs S P => match xs with
  | [.int i] => P (.int (if i < 0 then -i else i)) S
  | _ => False
def oInt : ON := fun xs S P => match xs with
  | [.int i] => P (.int i) S
  | [.bl k] => P (.int (if k then 1 else 0)) S
  | _ => False
def oGcd : ON := fun xs S P => match xs with
  | [.int i, .int j] => P (.int ((Nat.gcd i.natAbs j.natAbs : Nat) : Int)) S
  | _ => False
def oLen : ON := fun xs S P => match xs with
  | [.str z] => z.length ≤ sizeLine ∧ P (.int z.length) S
  | [d] => match seqOf S d with
    | some ds => P (.int ds.length) S
    | none => False
  | _ => False
def oTuple : ON := fun xs S P => match xs with
  | [d] => match seqOf S d with
    | some ds => P (.tup ds) S
    | none => False
  | _ => False
def shownD (d : D) : Str := (toP d).shown
def oRepr : ON := fun xs S P => match xs with
  | [d] => okD (res S d) = true ∧ (toP (res S d)).showable = true ∧ (shownD (res S d)).length ≤ sizeLine ∧ P (.str (shownD (res S d))) S
  | _ => False
theorem rl1 {K : PySem.W.Frag} {H : Hp} {vs : List V} {d : D} (r : RepL K H vs [d]) : ∃ v, vs = [v] ∧ Rep K H v d := by
  cases r with
  | cons r t => cases t; exact ⟨_, rfl, r⟩
theorem rl2 {K : PySem.W.Frag} {H : Hp} {vs : List V} {d e : D} (r : RepL K H vs [d, e]) : ∃ v u, vs = [v, u] ∧ Rep K H v d ∧ Rep K H u e := by
  cases r with
  | cons r t =>
    obtain ⟨u, rfl, q⟩ := rl1 t
    exact ⟨_, _, rfl, r, q⟩
theorem n_abs : DN X (fun us => call (.builtin "abs") us) oAbs := by
  intro pins s σ H S xs xvs us P I rv r rs h Q hq
  match xs, h with
  | [.int i], h =>
    obtain ⟨v, rfl, q⟩ := rl1 r
    cases q
    exact call_abs pins s σ H _ us Q I rv ⟨i, rfl, hq.here h (.int _) rs⟩
theorem n_int : DN X (fun us => call (.type "int") us) oInt := by
  intro pins s σ H S xs xvs us P I rv r rs h Q hq
  match xs, h with
  | [.int i], h =>
    obtain ⟨v, rfl, q⟩ := rl1 r
    cases q
    exact call_int1 pins s σ H _ us Q I rv (.inl ⟨i, rfl, hq.here h (.int _) rs⟩)
  | [.bl k], h =>
    obtain ⟨v, rfl, q⟩ := rl1 r
    cases q
    exact call_int1 pins s σ H _ us Q I rv (.inr ⟨k, rfl, hq.here h (.int _) rs⟩)
theorem n_gcd : DN X (fun us => call (.builtin "math.gcd") us) oGcd := by
  intro pins s σ H S xs xvs us P I rv r rs h Q hq
  match xs, h with
  | [.int i, .int j], h =>
    obtain ⟨v, u, rfl, q1, q2⟩ := rl2 r
    cases q1; cases q2
    exact cr_gcd pins s σ H _ us Q I rv ⟨i, j, rfl, hq.here h (.int _) rs⟩
theorem oLen_of {xs : List D} {S : Sto} {P : PD} (h : oLen xs S P) : (∃ z, xs = [.str z] ∧ z.length ≤ sizeLine ∧ P (.int z.length) S) ∨ ∃ d ds, xs = [d] ∧ seqOf S d = some ds ∧ P (.int ds.length) S := by
  cases xs with
  | nil => exact h.elim
  | cons d r =>
    cases r with
    | cons e r => cases d <;> exact h.elim
    | nil =>
      cases d with
      | str z => exact .inl ⟨z, rfl, h⟩
      | tup ds => exact .inr ⟨_, ds, rfl, rfl, h⟩
      | lst ds => exact .inr ⟨_, ds, rfl, rfl, h⟩
      | ref a =>
        cases e : seqOf S (.ref a) with
        | none => simp only [oLen, e] at h
        | some ds => simp only [oLen, e] at h; exact .inr ⟨_, ds, rfl, e, h⟩
      | non => exact h.elim
      | bl _ => exact h.elim
      | int _ => exact h.elim
      | obj _ _ _ => exact h.elim
theorem n_len : DN X (fun us => call (.builtin "len") us) oLen := by
  intro pins s σ H S xs xvs us P I rv r rs h Q hq
  rcases oLen_of h with ⟨z, rfl, hz, h⟩ | ⟨d, ds, rfl, e, h⟩
  · obtain ⟨v, rfl, q⟩ := rl1 r
    cases q
    exact call_len_str pins s σ H _ us Q I rv ⟨z, rfl, hz, hq.here h (.int _) rs⟩
  · obtain ⟨v, rfl, q⟩ := rl1 r
    obtain ⟨p, vs, rfl, hl, rl⟩ := seq_rep q rs e
    exact call_len_seq pins s σ H _ us Q I rv ⟨p, vs, rfl, hl, hq.here (d := .int _) (by rw [rl.length]; exact h) (.int _) rs⟩
theorem oTuple_of {xs : List D} {S : Sto} {P : PD} (h : oTuple xs S P) : ∃ d ds, xs = [d] ∧ seqOf S d = some ds ∧ P (.tup ds) S := by
  match xs, h with
  | [d], h =>
    cases e : seqOf S d with
    | none => simp only [oTuple, e] at h
    | some ds => simp only [oTuple, e] at h; exact ⟨d, ds, rfl, e, h⟩
theorem n_tuple : DN X (fun us => call (.type "tuple") us) oTuple := by
  intro pins s σ H S xs xvs us P I rv r rs h Q hq
  obtain ⟨d, ds, rfl, e, h⟩ := oTuple_of h
  obtain ⟨v, rfl, q⟩ := rl1 r
  obtain ⟨p, vs, rfl, hl, rl⟩ := seq_rep q rs e
  refine call_tuple_of pins s σ H _ us Q I rv ⟨p, vs, rfl, ?_⟩
  rcases hl with hl | hl
  · exact .inl ⟨hl, fun l nl => hq _ S _ _ h (Ext.new nl) (.tup (.of upd_same) (rl.ext (Ext.new nl))) (rs.new nl)⟩
  · exact .inr ⟨hl, hq.here h (.tup hl rl) rs⟩
theorem n_repr (hg : X.A.guards = some []) (hu : X.A.units + 66 < cLine) : DN X (fun us => call (.builtin "repr") us) oRepr := by
  intro pins s σ H S xs xvs us P I rv r rs h Q hq
  match xs, h with
  | [d], h =>
    obtain ⟨ok, hs, hz, h⟩ := h
    obtain ⟨v, rfl, q⟩ := rl1 r
    obtain ⟨u, rfl, ru⟩ := vals1 rv
    obtain ⟨hd, sh⟩ := dp_res q rs ok
    obtain ⟨as, rd⟩ := Dp.reads I _ _ _ hd ru
    have nd := PyData.hasDict_of_canLay _ (SeqAt.canLay_of_shaped sh)
    have dep := SeqAt.depth_of_shaped sh
    have fin : ∀ a, v = .ref a → wpAny (model X.prog X.w) X.A (call (.builtin "repr") [u]) (EP X pins σ Q) X.xe s := fun a ev => by
      subst ev
      have eu : u = .ref a := ru
      subst eu
      exact repr_of_reads' rd hs (PyData.noDict_hsm nd) hg (by omega) (fun _ _ z => z) (fun h' t tk k => ⟨.str _, H, I.kept (t' := tk) k, ⟨_, rfl⟩, hq.here h (.str _) rs⟩) hz
    have one : ∀ {x : Str}, x = shownD (res S d) → EP X pins σ Q (.str x s.toks) { s with toks := s.toks + 1 } := fun {x} e => by
      subst e
      exact ⟨.str _, H, I.tok _, ⟨_, rfl⟩, hq.here h (.str _) rs⟩
    cases q with
    | non =>
      have eu : u = .none := ru
      subst eu
      exact PySem.P.repr_of_none (one rfl)
    | bl b =>
      have eu : u = .bool b := ru
      subst eu
      refine PySem.P.repr_of_bool (one ?_)
      cases b <;> rfl
    | int i =>
      obtain ⟨t, rfl⟩ := ru
      exact PySem.P.repr_of_int (of_decide_eq_true hs) (one rfl)
    | str x =>
      obtain ⟨t, rfl⟩ := ru
      exact PySem.P.repr_of_str (one rfl) hz
    | ref a => exact fin a rfl
    | tup _ _ => exact fin _ rfl
    | lst _ _ => exact fin _ rfl
    | obj _ _ _ _ => exact absurd ok (by simp [okD, res, noref])
end
end PL
namespace PL
open PySem PySem.Spec L2
/-! ### statements -/
structure EndD where
  nx : Env → Sto → Prop
  rt : PD
  bk : Env → Sto → Prop := fun _ _ => False
  ct : Env → Sto → Prop := fun _ _ => False
abbrev XS := XD → Env → Sto → Prop
abbrev WS := EndD → XS → Env → Sto → Prop
section
variable (K : PySem.W.Frag) (mg : Str → Option Value) (W : WX)
def okN (H0 : Hp) (p : Env → Sto → Prop) (q : St → Hp → Prop) : Prop := ∀ env S σ H', p env S → Ext H0 H' → RepE K H' σ env → RepS K H' S → q σ H'
structure okS (H0 : Hp) (P : EndD) (D : Ends) : Prop where
  nx : okN K H0 P.nx D.nx
  rt : okE K H0 P.rt D.rt
  bk : okN K H0 P.bk D.bk
  ct : okN K H0 P.ct D.ct
def okXS (H0 : Hp) (X : XS) : Prop := ∀ x env S cls dd σ H', X x env S → Ext H0 H' → RepE K H' σ env → RepX K mg H' cls dd x → RepS K H' S → W cls dd σ H'
def tS (w : WS) : TS := fun D σ H => ∃ env S P X, RepE K H σ env ∧ RepS K H S ∧ w P X env S ∧ okS K H P D ∧ okXS K mg W H X
end
section
variable {K : PySem.W.Frag} {mg : Str → Option Value} {W : WX} {H H1 : Hp} {σ : St} {env : Env} {X : XS} {P : EndD} {D : Ends}
theorem okN.ext {p : Env → Sto → Prop} {q : St → Hp → Prop} (h : okN K H p q) (e : Ext H H1) : okN K H1 p q := fun env S σ H' a b c d => h env S σ H' a (e.trans b) c d
theorem okS.ext (h : okS K H P D) (e : Ext H H1) : okS K H1 P D := ⟨h.nx.ext e, h.rt.ext e, h.bk.ext e, h.ct.ext e⟩
theorem okXS.ext (h : okXS K mg W H X) (e : Ext H H1) : okXS K mg W H1 X := fun x env S c d σ H' a b r t s => h x env S c d σ H' a (e.trans b) r t s
/-- what an expression lets out, at the slots -/
theorem okXS.at (h : okXS K mg W H X) (r : RepE K H σ env) : okX K mg W H σ (fun x S => X x env S) := fun x S' c d H' a b t s => h x env S' c d σ H' a b (r.ext b) t s
end
abbrev IS (X : Cx) (W : WX) (st : Stmt) (w : WS) : Prop := PS X st (tS X.K X.mg W w)
abbrev ISs (X : Cx) (W : WX) (sts : List Stmt) (w : WS) : Prop := PSs X sts (tS X.K X.mg W w)
theorem _root_.L2.PS.of {X : Cx} {e : Stmt} {t u : TS} (h : PS X e t) (i : ∀ D σ H, u D σ H → t D σ H) : PS X e u := ⟨fun pins s σ H D I q => h.run pins s σ H D I (i D σ H q)⟩
theorem _root_.L2.PSs.of {X : Cx} {e : List Stmt} {t u : TS} (h : PSs X e t) (i : ∀ D σ H, u D σ H → t D σ H) : PSs X e u := ⟨fun pins s σ H D I q => h.run pins s σ H D I (i D σ H q)⟩
section
variable {X : Cx} {W : WX} {st : Stmt} {sts rest a b : List Stmt} {e c : Expr} {w : WE} {wb : WB} {u v : WS} {pos : Pos}
def sSkip : WS := fun P _ env S => P.nx env S
def sSeq (u v : WS) : WS := fun P X env S => u { P with nx := fun e s => v P X e s } X env S
theorem is_nil : ISs X W [] sSkip := pss_nil.of fun D σ H ⟨env, S, P, x, re, rs, h, hq, hx⟩ => hq.nx env S σ H h (Ext.refl H) re rs
theorem is_one (h : IS X W st u) : ISs X W [st] u := pss_one h
theorem is_cons (h : IS X W st u) (h2 : ISs X W rest v) : ISs X W (st :: rest) (sSeq u v) :=
  (pss_cons h h2).of fun D σ H ⟨env, S, P, x, re, rs, h, hq, hx⟩ => ⟨env, S, _, x, re, rs, h, ⟨fun env' S' σ' H' p e1 r1 s1 => ⟨env', S', P, x, r1, s1, p, hq.ext e1, hx.ext e1⟩, hq.rt, hq.bk, hq.ct⟩, hx⟩
theorem is_pass : IS X W (.Pass pos) sSkip := ps_pass.of fun D σ H ⟨env, S, P, x, re, rs, h, hq, hx⟩ => hq.nx env S σ H h (Ext.refl H) re rs
def sBreak : WS := fun P _ env S => P.bk env S
def sCont : WS := fun P _ env S => P.ct env S
theorem is_break : IS X W (.Break pos) sBreak := ps_break.of fun D σ H ⟨env, S, P, x, re, rs, h, hq, hx⟩ => hq.bk env S σ H h (Ext.refl H) re rs
theorem is_cont : IS X W (.Continue pos) sCont := ps_continue.of fun D σ H ⟨env, S, P, x, re, rs, h, hq, hx⟩ => hq.ct env S σ H h (Ext.refl H) re rs
theorem is_doc {x : Str} {j : Nat} {p2 : Pos} : IS X W (.Expr (.Constant (.str x) j p2) pos) sSkip := ps_doc.of fun D σ H ⟨env, S, P, x, re, rs, h, hq, hx⟩ => hq.nx env S σ H h (Ext.refl H) re rs
def sExpr (w : WE) : WS := fun P X env S => w env S (fun _ S' => P.nx env S') (fun x S' => X x env S')
theorem is_expr (he : IE X W e w) (hs : swapsWith e none pos.line X.env = pure false) : IS X W (.Expr e pos) (sExpr w) :=
  (ps_expr he hs).of fun D σ H ⟨env, S, P, x, re, rs, h, hq, hx⟩ => ⟨env, S, _, _, re, rs, h, fun d S' v' H' p e1 r1 s1 => hq.nx _ _ _ _ p e1 (re.ext e1) s1, hx.at re⟩
def sRet (w : WE) : WS := fun P X env S => w env S P.rt (fun x S' => X x env S')
theorem is_ret (he : IE X W e w) : IS X W (.Return (some e) pos) (sRet w) :=
  (ps_ret he).of fun D σ H ⟨env, S, P, x, re, rs, h, hq, hx⟩ => ⟨env, S, _, _, re, rs, h, hq.rt, hx.at re⟩
def sRetN : WS := fun P _ _ S => P.rt .non S
theorem is_retN : IS X W (.Return none pos) sRetN := ps_retN.of fun D σ H ⟨env, S, P, x, re, rs, h, hq, hx⟩ => hq.rt.here h .non rs
def sIf (c : WB) (u v : WS) : WS := fun P X env S => c env S (fun k S' => if k = true then u P X env S' else v P X env S') (fun x S' => X x env S')
theorem is_if (hc : IT X W c wb) (ha : ISs X W a u) (hb : ISs X W b v) : IS X W (.If c a b pos) (sIf wb u v) :=
  (ps_if hc ha hb).of fun D σ H ⟨env, S, P, x, re, rs, h, hq, hx⟩ => ⟨env, S, _, _, re, rs, h, fun k S' H' p e1 s1 => match k, p with
    | true, p => ⟨env, S', P, x, re.ext e1, s1, p, hq.ext e1, hx.ext e1⟩
    | false, p => ⟨env, S', P, x, re.ext e1, s1, p, hq.ext e1, hx.ext e1⟩, hx.at re⟩
end
/-! ### targets -/
abbrev WG := D → Env → Sto → (Env → Sto → Prop) → PX → Prop
abbrev WGs := List D → Env → Sto → (Env → Sto → Prop) → PX → Prop
/-- only these slots have changed -/
def But (l : List Nat) (σ σ' : St) : Prop := σ'.length = σ.length ∧ ∀ i : Nat, i ∉ l → σ'[i]? = σ[i]?
theorem But.refl (l : List Nat) (σ : St) : But l σ σ := ⟨rfl, fun _ _ => rfl⟩
theorem But.trans {l : List Nat} {σ σ1 σ2 : St} (a : But l σ σ1) (b : But l σ1 σ2) : But l σ σ2 := ⟨b.1.trans a.1, fun i h => (b.2 i h).trans (a.2 i h)⟩
theorem But.mono {l m : List Nat} {σ σ' : St} (a : But l σ σ') (h : ∀ i ∈ l, i ∈ m) : But m σ σ' := ⟨a.1, fun i hi => a.2 i fun z => hi (h i z)⟩
section
variable (K : PySem.W.Frag) (mg : Str → Option Value) (W : WX) (l : List Nat)
def okG (H0 : Hp) (σ0 : St) (p : Env → Sto → Prop) (q : St → Hp → Prop) : Prop := ∀ env S σ H', p env S → Ext H0 H' → RepE K H' σ env → RepS K H' S → But l σ0 σ → q σ H'
def tG (g : WG) : TG := fun v σ H Q => ∃ d env S R X, Rep K H v d ∧ RepE K H σ env ∧ RepS K H S ∧ g d env S R X ∧ okG K l H σ R Q ∧ (∀ σ', But l σ σ' → okX K mg W H σ' X)
def tGs (g : WGs) : TGs := fun vs σ H Q => ∃ ds env S R X, RepL K H vs ds ∧ RepE K H σ env ∧ RepS K H S ∧ g ds env S R X ∧ okG K l H σ R Q ∧ (∀ σ', But l σ σ' → okX K mg W H σ' X)
end
abbrev IG (X : Cx) (W : WX) (l : List Nat) (tg : Expr) (g : WG) : Prop := PG X tg (tG X.K X.mg W l g)
abbrev IGs (X : Cx) (W : WX) (l : List Nat) (tgs : List Expr) (g : WGs) : Prop := PGs X tgs (tGs X.K X.mg W l g)
theorem _root_.L2.PG.of {X : Cx} {e : Expr} {t u : TG} (h : PG X e t) (i : ∀ v σ H Q, u v σ H Q → t v σ H Q) : PG X e u := ⟨fun pins s σ H v w Q I r q => h.run pins s σ H v w Q I r (i v σ H Q q)⟩
theorem _root_.L2.PGs.of {X : Cx} {e : List Expr} {t u : TGs} (h : PGs X e t) (i : ∀ v σ H Q, u v σ H Q → t v σ H Q) : PGs X e u := ⟨fun pins s σ H v w Q I r q => h.run pins s σ H v w Q I r (i v σ H Q q)⟩
section
variable {X : Cx} {W : WX} {l : List Nat} {e o i : Expr} {es : List Expr} {g : WG} {gs : WGs} {wo wi : WE} {pos : Pos}
def gVar (i : Nat) : WG := fun d env S R _ => R (env.set i (some d)) S
theorem ig_var {i : Nat} {x : Str} (hN : X.N.Nodup) (hi : X.N[i]? = some x) (hx : Loc X.env.scope x) (hf : X.fn x = true ∨ X.env.scope.names.lookup x = some .local) (hl : i ∈ l) : IG X W l (.Name x pos) (gVar i) :=
  (pg_name hN hi hx hf).of fun v σ H Q ⟨d, env, S, R, x, r, re, rs, h, hq, _⟩ => hq _ _ _ _ h (Ext.refl H) (re.set r) rs
    ⟨List.length_set .., fun j hj => List.getElem?_set_ne (fun (z : i = j) => hj (by rw [← z]; exact hl))⟩
def gNilD : WGs := fun ds env S R _ => ds = [] ∧ R env S
def gConsD (g : WG) (gs : WGs) : WGs := fun ds env S R X => match ds with
  | d :: r => g d env S (fun e' s' => gs r e' s' R X) X
  | [] => False
theorem igs_nil : IGs X W l [] gNilD := pgs_nil.of fun vs σ H Q ⟨ds, env, S, R, x, r, re, rs, h, hq, _⟩ => by
  obtain ⟨rfl, h⟩ := h
  cases r
  exact ⟨rfl, hq _ _ _ _ h (Ext.refl H) re rs (But.refl _ _)⟩
theorem igs_cons (h1 : IG X W l e g) (h2 : IGs X W l es gs) (hs : (assignEach (e :: es) X.env).map (·.2) = assign e X.env :: (assignEach es X.env).map (·.2)) : IGs X W l (e :: es) (gConsD g gs) :=
  (pgs_cons h1 h2 hs).of fun vs σ H Q ⟨ds, env, S, R, x, r, re, rs, h, hq, hx⟩ => by
    cases r with
    | nil => exact h.elim
    | cons r1 rr =>
      exact ⟨_, _, rfl, _, env, S, _, x, r1, re, rs, h, fun env' S' σ' H' p e1 r2 s2 b => ⟨_, env', S', R, x, rr.ext e1, r2, s2, p, fun env2 S2 σ2 H2 p2 e2 r3 s3 b2 => hq env2 S2 σ2 H2 p2 (e1.trans e2) r3 s3 (b.trans b2), fun σ3 b3 => (hx σ3 (b.trans b3)).ext e1⟩, hx⟩
def gTupD (n : Nat) (gs : WGs) : WG := fun d env S R X => match d with
  | .tup ds => ds.length = n ∧ gs ds env S R X
  | .lst ds => ds.length = n ∧ gs ds env S R X
  | .ref a => match S a with
    | some (.lst ds) => ds.length = n ∧ gs ds env S R X
    | _ => False
  | _ => False
theorem ig_tup {k n : Nat} (hc : X.calm = true) (h : IGs X W l es gs) (hn : (assignEach es X.env).length = n) (hst : (assignEach es X.env).findIdx? (·.1) = none) : IG X W l (.Tuple es k pos) (gTupD n gs) :=
  ⟨fun pins s σ H v w Q I rv ⟨d, env, S, R, x, r, re, rs, h0, hq, hx⟩ => by
    cases r with
    | tup h1 t1 => exact (pg_tup hc h hn hst).run pins s σ H _ w Q I rv ⟨_, _, rfl, h1, by rw [t1.length]; exact h0.1, _, env, S, R, x, t1, re, rs, h0.2, hq, hx⟩
    | lst h1 t1 => exact (pg_lst hc h hn hst).run pins s σ H _ w Q I rv ⟨_, _, rfl, h1.sql, by rw [t1.length]; exact h0.1, _, env, S, R, x, t1, re, rs, h0.2, hq, hx⟩
    | ref a =>
      have h' : (match S a with
        | some (.lst ds) => ds.length = n ∧ gs ds env S R x
        | _ => False) := h0
      cases e : S a with
      | none => rw [e] at h'; exact h'.elim
      | some o =>
        cases o with
        | oth x => rw [e] at h'; exact h'.elim
        | lst ds =>
          rw [e] at h'
          obtain ⟨vs, q, t⟩ := rs a _ e
          exact (pg_lst hc h hn hst).run pins s σ H _ w Q I rv ⟨_, _, rfl, .of q, by rw [t.length]; exact h'.1, _, env, S, R, x, t, re, rs, h'.2, hq, hx⟩
    | _ => exact h0.elim⟩
/-- o[i] = d -/
def oSet (o i d : D) (S : Sto) (R : Sto → Prop) : Prop := match o, i with
  | .ref p, .int k => match S p with
    | some (.lst ds) => match ixN ds.length k with
      | some j => R (sput S p (.lst (ds.set j d)))
      | none => False
    | _ => False
  | _, _ => False
theorem oSet_of {o i d : D} {S : Sto} {R : Sto → Prop} (h : oSet o i d S R) : ∃ p k ds j, o = .ref p ∧ i = .int k ∧ S p = some (.lst ds) ∧ ixN ds.length k = some j ∧ R (sput S p (.lst (ds.set j d))) := by
  cases o with
  | ref p =>
    cases i with
    | int k =>
      cases e : S p with
      | none => simp only [oSet, e] at h
      | some z =>
        cases z with
        | oth x => simp only [oSet, e] at h
        | lst ds =>
          cases e2 : ixN ds.length k with
          | none => simp only [oSet, e, e2] at h
          | some j => simp only [oSet, e, e2] at h; exact ⟨p, k, ds, j, rfl, rfl, e, e2, h⟩
    | _ => exact h.elim
  | _ => exact h.elim
def gSubD (wo wi : WE) : WG := fun d env S R X => wo env S (fun o S1 => wi env S1 (fun i S2 => oSet o i d S2 (fun S3 => R env S3)) X) X
theorem ig_sub (ho : IE X W o wo) (hi : IE X W i wi) (ha : ∀ v, assign (.Subscript o i pos) X.env v = (do
      let ov ← holding [v] (eval o X.env)
      let iv ← holding [v, ov] (eval i X.env)
      standAt pos
      holding [v, ov, iv] (setItem ov iv v)
      release [v, ov, iv] [])) : IG X W l (.Subscript o i pos) (gSubD wo wi) :=
  (pg_sub ho hi set_list ha).of fun v σ H Q ⟨d, env, S, R, x, r, re, rs, h, hq, hx⟩ =>
    ⟨env, S, _, x, re, rs, h, fun d1 S1 v1 H1 p1 e1 r1 s1 => ⟨env, S1, _, x, re.ext e1, s1, p1, fun d2 S2 v2 H2 p2 e2 r2 s2 => by
      obtain ⟨p, k, ds, j, rfl, rfl, eS, ej, q⟩ := oSet_of p2
      cases r1; cases r2
      obtain ⟨vs, eH, rl⟩ := s2 p _ eS
      exact ⟨p, vs, k, j, rfl, rfl, eH, by rw [rl.length]; exact ej, hq _ _ _ _ q ((e1.trans e2).trans (Ext.put eH)) (re.ext ((e1.trans e2).trans (Ext.put eH))) (s2.putL eH (rl.set j (r.ext (e1.trans e2)))) (But.refl _ _)⟩, (hx σ (But.refl _ _)).ext e1⟩, hx σ (But.refl _ _)⟩
/-! assignments -/
def sAsg (w : WE) (g : WG) : WS := fun P X env S => w env S (fun d S' => g d env S' P.nx (fun x S2 => ∀ env', X x env' S2)) (fun x S' => X x env S')
/-- targets that let nothing out -/
def sSet (w : WE) (g : WG) : WS := fun P X env S => w env S (fun d S' => g d env S' P.nx (fun _ _ => False)) (fun x S' => X x env S')
theorem is_set {t : Expr} {w : WE} (he : IE X W e w) (hg : IG X W l t g) (hs : swapsWithSole [t] e pos.line X.env = pure false) (hw : swappedStores [t] e X.env = pure none) (h1 : (assignEach [t] X.env).map (·.2) = [assign t X.env]) : IS X W (.Assign [t] e pos) (sSet w g) :=
  (ps_asg he hg hs hw h1).of fun D σ H ⟨env, S, P, x, re, rs, h, hq, hx⟩ =>
    ⟨env, S, _, _, re, rs, h, fun d S' v H' p e1 r1 s1 => ⟨d, env, S', P.nx, _, r1, re.ext e1, s1, p, fun env2 S2 σ2 H2 p2 e2 r2 s2 _ => hq.nx _ _ _ _ p2 (e1.trans e2) r2 s2, fun _ _ _ _ _ _ _ z => z.elim⟩, hx.at re⟩
/-- a, b = x, y -/
def sPar2 (i j : Nat) (w : WA) : WS := fun P X env S => w env S (fun ds S' => match ds with
  | [d, e] => P.nx ((env.set i (some d)).set j (some e)) S'
  | _ => False) (fun x S' => X x env S')
theorem is_par2 {i j : Nat} {x y : Str} {a b : Expr} {w : WA} {px py pt : Pos} {kt k2 pt2} (hc : X.calm = true) (hN : X.N.Nodup) (hi : X.N[i]? = some x) (hj : X.N[j]? = some y) (hij : i ≠ j)
    (hx : X.env.scope.names.lookup x = some .local) (hy : X.env.scope.names.lookup y = some .local) (ha : IA X W [a, b] w)
    (hw : swappedStores [.Tuple [.Name x px, .Name y py] kt pt] (.Tuple [a, b] k2 pt2) X.env = pure (some [x, y])) (hs : swapsWithSole [.Tuple [.Name x px, .Name y py] kt pt] (.Tuple [a, b] k2 pt2) pos.line X.env = pure false) :
    IS X W (.Assign [.Tuple [.Name x px, .Name y py] kt pt] (.Tuple [a, b] k2 pt2) pos) (sPar2 i j w) :=
  (ps_par hc hN hi hj hij hx hy ha hw hs).of fun D σ H ⟨env, S, P, x, re, rs, h, hq, hx⟩ =>
    ⟨env, S, _, _, re, rs, h, fun ds S' vs H' p _ e1 r1 s1 => by
      match ds, p with
      | [d, e], p =>
        obtain ⟨v, u, rfl, q1, q2⟩ := rl2 r1
        exact ⟨v, u, rfl, hq.nx _ _ _ _ p e1 (((re.ext e1).set q1).set q2) s1⟩, hx.at re⟩
def sPar3 (i j k : Nat) (w : WA) : WS := fun P X env S => w env S (fun ds S' => match ds with
  | [d, e, f] => P.nx (((env.set i (some d)).set j (some e)).set k (some f)) S'
  | _ => False) (fun x S' => X x env S')
theorem is_par3 {i j k : Nat} {x y z : Str} {a b c : Expr} {w : WA} {px py pz pt : Pos} {kt k2 pt2} (hc : X.calm = true) (hN : X.N.Nodup) (hi : X.N[i]? = some x) (hj : X.N[j]? = some y) (hk : X.N[k]? = some z) (hij : i ≠ j) (hik : i ≠ k) (hjk : j ≠ k)
    (hx : X.env.scope.names.lookup x = some .local) (hy : X.env.scope.names.lookup y = some .local) (hz : X.env.scope.names.lookup z = some .local) (ha : IA X W [a, b, c] w)
    (hw : swappedStores [.Tuple [.Name x px, .Name y py, .Name z pz] kt pt] (.Tuple [a, b, c] k2 pt2) X.env = pure (some [x, y, z])) (hs : swapsWithSole [.Tuple [.Name x px, .Name y py, .Name z pz] kt pt] (.Tuple [a, b, c] k2 pt2) pos.line X.env = pure false) :
    IS X W (.Assign [.Tuple [.Name x px, .Name y py, .Name z pz] kt pt] (.Tuple [a, b, c] k2 pt2) pos) (sPar3 i j k w) :=
  (ps_par3 hc hN hi hj hk hij hik hjk hx hy hz ha hw hs).of fun D σ H ⟨env, S, P, x, re, rs, h, hq, hx⟩ =>
    ⟨env, S, _, _, re, rs, h, fun ds S' vs H' p _ e1 r1 s1 => by
      match ds, p with
      | [d, e, f], p =>
        cases r1 with
        | cons q0 t =>
          obtain ⟨v, u, rfl, q1, q2⟩ := rl2 t
          exact ⟨_, v, u, rfl, hq.nx _ _ _ _ p e1 ((((re.ext e1).set q0).set q1).set q2) s1⟩, hx.at re⟩
end
end PL
namespace PL
open PySem PySem.Spec L2
/-! ### what is walked: the items, as data -/
abbrev WI := Env → Sto → (List D → Sto → Prop) → PX → Prop
/-- the iterator hands out ds, as long as G stands -/
structure Walks (K : PySem.W.Frag) (J : It) (ds : List D) (G : Hp → Prop) : Prop where
  stay : ∀ H H', G H → Ext H H' → G H'
  go : ∀ (i : Nat) H, G H → i < ds.length → J.go i H
  yld : ∀ (i : Nat) H x H' d, G H → ds[i]? = some d → J.yld i H x H' → Ext H H' ∧ Rep K H' x d ∧ (∀ S, RepS K H S → RepS K H' S) ∧ (∀ a xs, H a = some (.lst xs) → H' a = some (.lst xs))
  stop : ∀ (i : Nat) H, G H → ds.length ≤ i → J.stop i H
def tI (K : PySem.W.Frag) (mg : Str → Option Value) (W : WX) (w : WI) : TI := fun σ H R => ∃ env S P X, RepE K H σ env ∧ RepS K H S ∧ w env S P X ∧ okX K mg W H σ X ∧
  ∀ ds S' J H' G, P ds S' → Ext H H' → RepS K H' S' → G H' → Walks K J ds G → R J H'
abbrev II (X : Cx) (W : WX) (tg e : Expr) (w : WI) : Prop := PI X tg e (tI X.K X.mg W w)
theorem _root_.L2.PI.of {X : Cx} {tg e : Expr} {t u : TI} (h : PI X tg e t) (i : ∀ σ H Q, u σ H Q → t σ H Q) : PI X tg e u := ⟨fun pins s σ H R I q => h.run pins s σ H R I (i σ H R q)⟩
section
variable {X : Cx} {W : WX} {tg a b e : Expr} {wa : WE} {was : WA} {pos p : Pos}
/-- a list or a tuple that stays -/
def wItems (wa : WE) : WI := fun env S P X => wa env S (fun d S' => match d with
  | .tup ds => P ds S'
  | .lst ds => P ds S'
  | _ => False) X
theorem walks_tup {K : PySem.W.Frag} {p : Addr} {vs : List V} {ds : List D} : Walks K (Itt K p) ds (fun H => SqT K H p vs ∧ RepL K H vs ds) where
  stay := fun H H' ⟨h, r⟩ e => ⟨e.sqt h, r.ext e⟩
  go := fun i H ⟨h, r⟩ hi => by
    have hv : i < vs.length := by rw [r.length]; exact hi
    exact ⟨vs, vs[i], h, List.getElem?_eq_getElem hv⟩
  yld := fun i H x H' d ⟨h, r⟩ ed ⟨e, f⟩ => by
    subst e
    obtain ⟨v, ev, rv⟩ := r.get ed
    have := f vs h
    rw [ev] at this
    cases this
    exact ⟨Ext.refl _, rv, fun _ z => z, fun _ _ z => z⟩
  stop := fun i H ⟨h, r⟩ hi => ⟨vs, h, by rw [r.length]; exact hi⟩
theorem walks_lst {K : PySem.W.Frag} {p : Addr} {vs : List V} {ds : List D} : Walks K (Itl K p) ds (fun H => FzL K H p vs ∧ RepL K H vs ds) where
  stay := fun H H' ⟨h, r⟩ e => ⟨e.fzl h, r.ext e⟩
  go := fun i H ⟨h, r⟩ hi => by
    have hv : i < vs.length := by rw [r.length]; exact hi
    exact ⟨vs, vs[i], h.sql, List.getElem?_eq_getElem hv⟩
  yld := fun i H x H' d ⟨h, r⟩ ed ⟨e, f⟩ => by
    subst e
    obtain ⟨v, ev, rv⟩ := r.get ed
    have := f vs h.sql
    rw [ev] at this
    cases this
    exact ⟨Ext.refl _, rv, fun _ z => z, fun _ _ z => z⟩
  stop := fun i H ⟨h, r⟩ hi => ⟨vs, h.sql, by rw [r.length]; exact hi⟩
theorem iter_lst {pins : List (Addr × Obj)} {σ : St} {H : Hp} {s : Shared} {a : Addr} {xs : List V} {R : It → Hp → Prop} (I : L2.Inv X pins σ H s) (h : SqL X.K H a xs) (q : R (Itl X.K a) H) : wpAny (model X.prog X.w) X.A (pyIter (.ref a)) (PIE X pins σ tg R) X.xe s := by
  obtain ⟨its, rv, pl, hz⟩ := I.list h
  refine wpAny_pyIter_list pl.isList ⟨s.heap.objs.size, [s.heap.objs.size], _, _, H, rfl, I.kept (t' := s.toks) fun b o e => Heap.get?_push_of_some _ e, turn_list a _, ⟨_, Heap.get?_push_size _ rfl, rfl, rfl⟩, fun b hb => ?_, q⟩
  rw [List.mem_singleton.mp hb]
  exact I.fpOk (Nat.le_refl _) (I.hok.fresh (Nat.le_refl _))
theorem iter_tup {pins : List (Addr × Obj)} {σ : St} {H : Hp} {s : Shared} {a : Addr} {xs : List V} {R : It → Hp → Prop} (I : L2.Inv X pins σ H s) (h : SqT X.K H a xs) (q : R (Itt X.K a) H) : wpAny (model X.prog X.w) X.A (pyIter (.ref a)) (PIE X pins σ tg R) X.xe s := by
  obtain ⟨its, rv, pl, hz⟩ := I.tuple h
  refine wpAny_pyIter_tuple (show s.heap.IsTuple a its.toArray from pl) ⟨s.heap.objs.size, [s.heap.objs.size], _, _, H, rfl, I.kept (t' := s.toks) fun b o e => Heap.get?_push_of_some _ e, turn_tuple a _, ⟨_, Heap.get?_push_size _ rfl, rfl, rfl⟩, fun b hb => ?_, q⟩
  rw [List.mem_singleton.mp hb]
  exact I.fpOk (Nat.le_refl _) (I.hok.fresh (Nat.le_refl _))
theorem ii_items (ha : IE X W a wa) : II X W tg a (wItems wa) := by
  refine ⟨fun pins s σ H R I ⟨env, S, P, x, re, rs, h, hx, hq⟩ => ?_⟩
  refine thn (ha.run pins s σ H (fun v H' => ∃ d S', Ext H H' ∧ Rep X.K H' v d ∧ RepS X.K H' S' ∧ (match d with
    | .tup ds => P ds S'
    | .lst ds => P ds S'
    | _ => False)) I ⟨env, S, _, x, re, rs, h, fun d S' v H' p e r s => ⟨d, S', e, r, s, p⟩, hx⟩) fun u s1 ⟨v, H1, I1, rv, d, S', e1, r1, s1', p⟩ => ?_
  cases r1 with
  | tup h1 t1 =>
    have eu : u = .ref _ := rv
    subst eu
    exact iter_tup I1 h1 (hq _ S' _ H1 _ p e1 s1' ⟨h1, t1⟩ walks_tup)
  | lst h1 t1 =>
    have eu : u = .ref _ := rv
    subst eu
    exact iter_lst I1 h1.sql (hq _ S' _ H1 _ p e1 s1' ⟨h1, t1⟩ walks_lst)
  | _ => exact p.elim
/-- lo, lo + 1, .. -/
def intsD (lo : Int) (n : Nat) : List D := (List.range n).map fun (i : Nat) => D.int (lo + i)
theorem walks_rng {K : PySem.W.Frag} {lo : Int} {n : Nat} : Walks K (Itr lo n) (intsD lo n) (fun _ => True) where
  stay := fun _ _ _ _ => trivial
  go := fun i H _ hi => by
    unfold intsD at hi
    rw [List.length_map, List.length_range] at hi
    exact hi
  yld := fun i H x H' d _ ed ⟨e, f⟩ => by
    subst e; subst f
    unfold intsD at ed
    rw [List.getElem?_map] at ed
    cases er : (List.range n)[i]? with
    | none => rw [er] at ed; cases ed
    | some k =>
      rw [er] at ed
      have hk : k = i := by
        obtain ⟨hl, e2⟩ := List.getElem?_eq_some_iff.mp er
        rw [List.getElem_range] at e2
        exact e2.symm
      cases ed
      subst hk
      exact ⟨Ext.refl _, .int _, fun _ z => z, fun _ _ z => z⟩
  stop := fun i H _ hi => by
    unfold intsD at hi
    rw [List.length_map, List.length_range] at hi
    exact hi
def wRange1 (was : WA) : WI := fun env S P X => was env S (fun ds S' => match ds with
  | [.int j] => (-(2 ^ 62) ≤ j ∧ j < 2 ^ 62) ∧ P (intsD 0 j.toNat) S'
  | _ => False) X
def wRange2 (was : WA) : WI := fun env S P X => was env S (fun ds S' => match ds with
  | [.int i, .int j] => (-(2 ^ 62) ≤ i ∧ i < 2 ^ 62 ∧ -(2 ^ 62) ≤ j ∧ j < 2 ^ 62) ∧ P (intsD i (j - i).toNat) S'
  | _ => False) X
theorem ii_range1 (hg : Gl X "range") (hm : X.mg "range" = none) (ha : IA X W [a] was) (hs : starEach [a] X.env = [(false, eval a X.env)]) : II X W tg (.Call (.Name "range" p) [a] [] pos) (wRange1 was) :=
  (pi_range1 hg hm ha hs).of fun σ H R ⟨env, S, P, x, re, rs, h, hx, hq⟩ => ⟨env, S, _, x, re, rs, h, fun ds S' vs H' q _ e r s => by
    match ds, q with
    | [.int j], q =>
      obtain ⟨v, rfl, r1⟩ := rl1 r
      cases r1
      exact ⟨j, rfl, q.1.1, q.1.2, hq _ S' _ H' _ q.2 e s trivial walks_rng⟩, hx⟩
theorem ii_range2 (hg : Gl X "range") (hm : X.mg "range" = none) (ha : IA X W [a, b] was) (hs : starEach [a, b] X.env = [(false, eval a X.env), (false, eval b X.env)]) (hs2 : starEach [b] X.env = [(false, eval b X.env)]) : II X W tg (.Call (.Name "range" p) [a, b] [] pos) (wRange2 was) :=
  (pi_range2 hg hm ha hs hs2).of fun σ H R ⟨env, S, P, x, re, rs, h, hx, hq⟩ => ⟨env, S, _, x, re, rs, h, fun ds S' vs H' q _ e r s => by
    match ds, q with
    | [.int i, .int j], q =>
      obtain ⟨v, u, rfl, r1, r2⟩ := rl2 r
      cases r1; cases r2
      exact ⟨i, j, rfl, q.1, hq _ S' _ H' _ q.2 e s trivial walks_rng⟩, hx⟩
end
/-! ### for, while -/
def loopD (g : WG) (body : WS) (P : EndD) (X : XS) : List D → Env → Sto → Prop
  | [], env, S => P.nx env S
  | d :: ds, env, S => g d env S (fun e s => body { nx := loopD g body P X ds, ct := loopD g body P X ds, bk := P.nx, rt := P.rt } X e s) (fun _ _ => False)
def sFor (wi : WI) (g : WG) (body : WS) : WS := fun P X env S => wi env S (fun ds S' => loopD g body P X ds env S') (fun x S' => X x env S')
def whileD (c : WB) (body : WS) (P : EndD) (X : XS) : Nat → Env → Sto → Prop
  | 0, _, _ => False
  | n + 1, env, S => c env S (fun k S' => if k = true then body { nx := whileD c body P X n, ct := whileD c body P X n, bk := P.nx, rt := P.rt } X env S' else P.nx env S') (fun x S' => X x env S')
def sWhile (c : WB) (body : WS) : WS := fun P X env S => ∃ n, whileD c body P X n env S
section
variable {X : Cx} {W : WX} {l : List Nat} {tg c iter : Expr} {body : List Stmt} {wi : WI} {g : WG} {u : WS} {wc : WB} {pos : Pos}
theorem is_for (hp : PassesOwn (model X.prog X.w) X.A X.env X.xe) (hc : X.calm = true) (hi : II X W tg iter wi) (hg : IG X W l tg g) (hb : ISs X W body u) (hs : ∀ x, foldedSetIterable iter X.env x = pure x) : IS X W (.For tg iter body [] pos) (sFor wi g u) :=
  (ps_for hp hc hi hg hb hs).of fun D σ H ⟨env, S, P, x, re, rs, h, hq, hx⟩ => ⟨env, S, _, _, re, rs, h, hx.at re, fun ds S' J H' G q e s hG wk => by
    refine ⟨fun i m σ1 H1 => i + m = ds.length ∧ ∃ env1 S1, Ext H H1 ∧ RepE X.K H1 σ1 env1 ∧ RepS X.K H1 S1 ∧ G H1 ∧ loopD g u P x (ds.drop i) env1 S1, ⟨ds.length, by omega, env, S', e, re.ext e, s, hG, q⟩, fun i m σ1 H1 ⟨hm, env1, S1, e1, r1, s1, hG1, q1⟩ => ?_⟩
    by_cases hl : i < ds.length
    · have ed : ds.drop i = ds[i] :: ds.drop (i + 1) := List.drop_eq_getElem_cons hl
      rw [ed] at q1
      refine .inr ⟨wk.go i H1 hG1 hl, fun σ2 H2 => i + 1 + (m - 1) = ds.length ∧ ∃ env2 S2, Ext H H2 ∧ RepE X.K H2 σ2 env2 ∧ RepS X.K H2 S2 ∧ G H2 ∧ loopD g u P x (ds.drop (i + 1)) env2 S2, fun σ2 H2 h2 => ⟨m - 1, by omega, h2⟩, fun v H2 hy => ?_⟩
      obtain ⟨e2, r2, k2, _⟩ := wk.yld i H1 v H2 ds[i] hG1 (List.getElem?_eq_getElem hl) hy
      refine ⟨ds[i], env1, S1, _, _, r2, r1.ext e2, k2 S1 s1, q1, fun env3 S3 σ3 H3 p3 e3 r3 s3 _ => ?_, fun _ _ _ _ _ _ _ z => z.elim⟩
      refine ⟨env3, S3, _, x, r3, s3, p3, ⟨fun env4 S4 σ4 H4 p4 e4 r4 s4 => ?_, hq.rt.ext ((e1.trans e2).trans e3), hq.nx.ext ((e1.trans e2).trans e3), fun env4 S4 σ4 H4 p4 e4 r4 s4 => ?_⟩, hx.ext ((e1.trans e2).trans e3)⟩
      · exact ⟨by omega, env4, S4, ((e1.trans e2).trans e3).trans e4, r4, s4, wk.stay _ _ hG1 ((e2.trans e3).trans e4), p4⟩
      · exact ⟨by omega, env4, S4, ((e1.trans e2).trans e3).trans e4, r4, s4, wk.stay _ _ hG1 ((e2.trans e3).trans e4), p4⟩
    · have ed : ds.drop i = [] := List.drop_eq_nil_of_le (by omega)
      rw [ed] at q1
      exact .inl ⟨wk.stop i H1 hG1 (by omega), hq.nx env1 S1 σ1 H1 q1 e1 r1 s1⟩⟩
theorem is_while (hp : PassesOwn (model X.prog X.w) X.A X.env X.xe) (hc : IT X W c wc) (hb : ISs X W body u) : IS X W (.While c body [] pos) (sWhile wc u) :=
  (ps_while hp hc hb).of fun D σ H ⟨env, S, P, x, re, rs, ⟨n, h⟩, hq, hx⟩ => by
    refine ⟨fun m σ1 H1 => ∃ env1 S1, Ext H H1 ∧ RepE X.K H1 σ1 env1 ∧ RepS X.K H1 S1 ∧ whileD wc u P x m env1 S1, ⟨n, env, S, Ext.refl H, re, rs, h⟩, fun m σ1 H1 ⟨env1, S1, e1, r1, s1, q1⟩ => ?_⟩
    cases m with
    | zero => exact q1.elim
    | succ m =>
      refine ⟨env1, S1, _, _, r1, s1, q1, fun k S2 H2 p2 e2 s2 => ?_, (hx.ext e1).at r1⟩
      cases k with
      | true =>
        refine ⟨fun σ3 H3 => ∃ env3 S3, Ext H H3 ∧ RepE X.K H3 σ3 env3 ∧ RepS X.K H3 S3 ∧ whileD wc u P x m env3 S3, fun σ3 H3 h3 => ⟨m, Nat.lt_succ_self m, h3⟩, env1, S2, _, x, r1.ext e2, s2, p2, ⟨fun env4 S4 σ4 H4 p4 e4 r4 s4 => ⟨env4, S4, (e1.trans e2).trans e4, r4, s4, p4⟩, hq.rt.ext (e1.trans e2), hq.nx.ext (e1.trans e2), fun env4 S4 σ4 H4 p4 e4 r4 s4 => ⟨env4, S4, (e1.trans e2).trans e4, r4, s4, p4⟩⟩, hx.ext (e1.trans e2)⟩
      | false => exact hq.nx env1 S2 σ1 H2 p2 (e1.trans e2) (r1.ext e2) s2
end
end PL
namespace PL
open PySem PySem.Spec L2
/-! ### defs: what they do, by data -/
abbrev Con := List D → Sto → PD → PX → Prop
def spI (K : PySem.W.Frag) (mg : Str → Option Value) (c : Con) : Sp := fun vs H Q E => ∃ ds S P X, RepL K H vs ds ∧ RepS K H S ∧ c ds S P X ∧ okE K H P Q ∧
  ∀ x S' cls dd H', X x S' → Ext H H' → RepX K mg H' cls dd x → RepS K H' S' → E cls dd H'
structure RoomG (k : Nat) (A : Around) : Prop where
  room : Room k A
  gd : A.guards = some []
theorem RoomG.mono {j k : Nat} {A : Around} (r : RoomG k A) (h : j ≤ k) : RoomG j A := ⟨r.room.mono h, r.gd⟩

/-- a def holds c: called with such arguments it ends as c says -/
def FnG (P : Program) (w : World) (K : PySem.W.Frag) (mg : Str → Option Value) (base : Heap) (k : Nat) (f : Addr) (fd : FuncData) (ps : List Str) (c : Con) : Prop :=
  ∀ (A : Around) (outer : List PySem.Env) (s : Shared) (H : Hp) (args : Args) (us : List Value) (vs : List V) (Q : VK) (E : XK), RoomG k A → Env0 P w K mg base A outer s H → BindsTo s fd args (ps.zip us) → Vals vs us → vs.length = ps.length → spI K mg c vs H Q E →
    codeAny (model P w) A (.call (.ref f) args) (CR (L2.CX P w) outer P w H s Q E) s
/-- the items of ws at these places -/
def pick {α : Type} (ix : List Nat) (ws : List α) : List α := ix.filterMap fun i => ws[i]?
theorem pick_rep {K : PySem.W.Frag} {H : Hp} {vs : List V} {ds : List D} (r : RepL K H vs ds) : ∀ ix : List Nat, RepL K H (pick ix vs) (pick ix ds)
  | [] => .nil
  | i :: ix => by
    have t := pick_rep r ix
    unfold pick at t ⊢
    rw [List.filterMap_cons, List.filterMap_cons]
    cases e : ds[i]? with
    | none =>
      have : vs[i]? = none := List.getElem?_eq_none_iff.mpr (by rw [r.length]; exact List.getElem?_eq_none_iff.mp e)
      rw [this]
      exact t
    | some d =>
      obtain ⟨v, ev, rv⟩ := r.get e
      rw [ev]
      exact .cons rv t
theorem pick_vals {vs : List V} {us : List Value} (r : Vals vs us) : ∀ ix : List Nat, Vals (pick ix vs) (pick ix us)
  | [] => .nil
  | i :: ix => by
    have t := pick_vals r ix
    unfold pick at t ⊢
    rw [List.filterMap_cons, List.filterMap_cons]
    cases e : vs[i]? with
    | none =>
      rw [r.none_of e]
      exact t
    | some v =>
      obtain ⟨u, ev, rv⟩ := r.get e
      rw [ev]
      exact .cons rv t
/-- how a call with n positional values and these keywords binds -/
def ixOf (ps : List Str) (n : Nat) (ks : List Str) : List Nat := (ps.drop n).map fun p => ks.idxOf p
def BindsK (fd : FuncData) (ps : List Str) (n : Nat) (ks : List Str) : Prop :=
  ∀ us ws : List Value, us.length = n → ws.length = ks.length → bindArgs fd ⟨us, ks.zip ws⟩ = pure (ps.zip (us ++ pick (ixOf ps n ks) ws)) ∧ (us ++ pick (ixOf ps n ks) ws).length = ps.length
structure FE where
  name : Str
  ps : List Str
  con : Con
  pats : List (Nat × List Str)
/-- the entry's def stands, and holds its contract -/
def FnIn (X : Cx) (k : Nat) (e : FE) : Prop := ∃ f fd, X.mg e.name = some (.ref f) ∧ PySem.W.keepIn X.K (.ref f) = true ∧ FnG X.prog X.w X.K X.mg X.base k f fd e.ps e.con ∧ ∀ q ∈ e.pats, BindsK fd e.ps q.1 q.2
section
variable {X : Cx} {W : WX} {pins : List (Addr × Obj)} {σ : St} {H : Hp} {s : Shared} {k : Nat} {fe : FE} {p pos : Pos} {e : Expr} {es : List Expr} {kws : List Keyword} {n : Nat} {ks : List Str} {was wks : WA}
theorem run_fn {f : Addr} {fd : FuncData} {c : Con} {ps : List Str} {Q : VK} {E : XK} {args : Args} {us : List Value} {vs : List V} (F : FnG X.prog X.w X.K X.mg X.base k f fd ps c) (hr : RoomG k X.A) (hx : PassesAt (L2.CX X.prog X.w) X σ E) (I : L2.Inv X pins σ H s)
    (hb : BindsTo s fd args (ps.zip us)) (r : Vals vs us) (hl : vs.length = ps.length) (h : spI X.K X.mg c vs H Q E) : wpAny (model X.prog X.w) X.A (call (.ref f) args.pos args.kw) (EP X pins σ Q) X.xe s := by
  refine wpAny_call (codeAny_mono (F X.A X.stack s H args us vs Q E hr I.env0 hb r hl h) fun r s' hq => ?_)
  cases r with
  | error e => exact hx pins H s e s' I hq
  | ok fl =>
    cases fl with
    | ret u => exact I.after hq
    | next => exact False.elim hq
    | brk => exact False.elim hq
    | cont => exact False.elim hq
/-- keywords' values -/
abbrev IK (X : Cx) (W : WX) (kws : List Keyword) (w : WA) : Prop := PK X kws (tA X.K X.mg W kws.length w)
theorem ik_nil : IK X W [] wNil := ⟨fun pos pins s σ H Q I ⟨env, S, P, x, re, rs, h, hq, _⟩ => pk_nil.run pos pins s σ H Q I (hq [] S [] H h rfl (Ext.refl H) .nil rs)⟩
theorem ik_cons {w : WE} {nm : Option Str} {kpos : Pos} (ha : IE X W e w) (hr : IK X W kws wks) : IK X W (⟨nm, e, kpos⟩ :: kws) (wCons w wks) :=
  ⟨fun pos pins s σ H Q I ⟨env, S, P, x, re, rs, h, hq, hx⟩ => (pk_cons ha hr).run pos pins s σ H Q I ⟨env, S, _, x, re, rs, h, fun d S1 v1 H1 p e1 r1 s1 =>
    ⟨env, S1, _, x, re.ext e1, s1, p, fun ds S2 vs H2 p2 l2 e2 r2 s2 => hq _ S2 _ H2 p2 (by rw [List.length_cons, l2]; rfl) (e1.trans e2) (.cons (r1.ext e2) r2) s2, hx.ext e1⟩, hx⟩⟩
def wCall (c : Con) (ix : List Nat) (was wks : WA) : WE := fun env S P X => was env S (fun ds S1 => wks env S1 (fun es S2 => c (ds ++ pick ix es) S2 P X) X) X
theorem call_end {P : PD} {x : PX} {Q : VK} {ds es : List D} {S2 : Sto} {us ws : List Value} {vs zs : List V} {f : Addr} {fd : FuncData} (tk : Takes X W) (hr : RoomG k X.A) (FG : FnG X.prog X.w X.K X.mg X.base k f fd fe.ps fe.con) (bs : BindsK fd fe.ps n ks)
    (I : L2.Inv X pins σ H s) (r1 : Vals vs us) (rz : Vals zs ws) (rd : RepL X.K H vs ds) (rz2 : RepL X.K H zs es) (rs : RepS X.K H S2) (hn : us.length = n) (hk : ws.length = ks.length) (h : fe.con (ds ++ pick (ixOf fe.ps n ks) es) S2 P x) (hq : okE X.K H P Q) (hx : okX X.K X.mg W H σ x) :
    wpAny (model X.prog X.w) X.A (call (.ref f) us (ks.zip ws)) (EP X pins σ Q) X.xe s := by
  obtain ⟨b1, b2⟩ := bs us ws hn hk
  have rv := r1.append (pick_vals rz (ixOf fe.ps n ks))
  exact run_fn (args := ⟨us, ks.zip ws⟩) FG hr (passAt tk σ) I (.of_eq b1) rv (by rw [rv.length]; exact b2) ⟨_, S2, P, x, rd.append (pick_rep rz2 _), rs, h, hq, fun y S' c d H' a b r t => hx y S' c d H' a b r t⟩
theorem ie_call (F : FnIn X k fe) (hp : (n, ks) ∈ fe.pats) (tk : Takes X W) (hr : RoomG k X.A) (hg : Gl X fe.name) (hdb : (fe.name == ("__debug__" : Str)) = false) (ha : IA X W (e :: es) was) (hkw : IK X W kws wks) (hn : (e :: es).length = n) (hk : kws.length = ks.length)
    (hall : (backToKw pos (keywordEach kws X.env)).all (·.1.isSome) = true) (hks : (backToKw pos (keywordEach kws X.env)).filterMap (·.1) = ks)
    (he : starEach (e :: es) X.env = (false, eval e X.env) :: starEach es X.env) (hpl : ((backTo pos (starEach (e :: es) X.env)).any (·.1) || (backToKw pos (keywordEach kws X.env)).any (·.1.isNone)) = false) :
    IE X W (.Call (.Name fe.name p) (e :: es) kws pos) (wCall fe.con (ixOf fe.ps n ks) was wks) := by
  obtain ⟨f, fd, hm, hkp, FG, bs⟩ := F
  refine ⟨fun pins s σ H Q I ⟨env, S, P, x, re, rs, h, hq, hx⟩ => ?_⟩
  refine wpAny_Call_Name_kw (ld_glob I hg hm ?_ hdb)
  refine PySem.W.callWith_KW (h₀ := X.base) I.ok.mod.kin hkp hall (thn (ha.run pos pins s σ H (fun vs H1 => ∃ ds S1, vs.length = n ∧ Ext H H1 ∧ RepL X.K H1 vs ds ∧ RepS X.K H1 S1 ∧ wks env S1 (fun es S2 => fe.con (ds ++ pick (ixOf fe.ps n ks) es) S2 P x) x) I
    ⟨env, S, _, x, re, rs, h, fun ds S1 vs H1 q l e1 r1 s1 => ⟨ds, S1, by rw [r1.length, l]; exact hn, e1, r1, s1, q⟩, hx⟩) fun us s1 ⟨vs, H1, I1, rv, ds, S1, ln, e1, r1, s1', q⟩ => ?_) hpl he
  refine thn (hkw.run pos pins s1 σ H1 (fun zs H2 => ∃ es S2, zs.length = ks.length ∧ Ext H1 H2 ∧ RepL X.K H2 zs es ∧ RepS X.K H2 S2 ∧ fe.con (ds ++ pick (ixOf fe.ps n ks) es) S2 P x) I1 ⟨env, S1, _, x, re.ext e1, s1', q, fun es S2 zs H2 q l e2 r2 s2 => ⟨es, S2, by rw [r2.length, l]; exact hk, e2, r2, s2, q⟩, hx.ext e1⟩) fun ws s2 ⟨zs, H2, I2, rz, es', S2, lz, e2, r2, s2', q2⟩ => ⟨I2.kIn, ?_⟩
  rw [hks]
  show wpAny _ _ (call (.ref f) us (ks.zip ws)) _ _ _
  exact call_end tk hr FG (bs _ hp) I2 rv rz (r1.ext e2) r2 s2' (by rw [← rv.length]; exact ln) (by rw [← rz.length]; exact lz) q2 (hq.ext (e1.trans e2)) (hx.ext (e1.trans e2))
theorem ie_call0 (F : FnIn X k fe) (hp : (0, ks) ∈ fe.pats) (tk : Takes X W) (hr : RoomG k X.A) (hg : Gl X fe.name) (hdb : (fe.name == ("__debug__" : Str)) = false) (hkw : IK X W kws wks) (hk : kws.length = ks.length)
    (hall : (backToKw pos (keywordEach kws X.env)).all (·.1.isSome) = true) (hks : (backToKw pos (keywordEach kws X.env)).filterMap (·.1) = ks)
    (hpl : ((backTo pos (starEach [] X.env)).any (·.1) || (backToKw pos (keywordEach kws X.env)).any (·.1.isNone)) = false) :
    IE X W (.Call (.Name fe.name p) [] kws pos) (wCall fe.con (ixOf fe.ps 0 ks) wNil wks) := by
  obtain ⟨f, fd, hm, hkp, FG, bs⟩ := F
  refine ⟨fun pins s σ H Q I ⟨env, S, P, x, re, rs, h, hq, hx⟩ => ?_⟩
  refine wpAny_Call_Name_kw (ld_glob I hg hm ?_ hdb)
  refine PySem.W.callWith_KW0 (h₀ := X.base) I.ok.mod.kin hkp hall ?_ hpl
  refine thn (hkw.run pos pins s σ H (fun zs H2 => ∃ es S2, zs.length = ks.length ∧ Ext H H2 ∧ RepL X.K H2 zs es ∧ RepS X.K H2 S2 ∧ fe.con ([] ++ pick (ixOf fe.ps 0 ks) es) S2 P x) I ⟨env, S, _, x, re, rs, h, fun es S2 zs H2 q l e2 r2 s2 => ⟨es, S2, by rw [r2.length, l]; exact hk, e2, r2, s2, q⟩, hx⟩) fun ws s2 ⟨zs, H2, I2, rz, es', S2, lz, e2, r2, s2', q2⟩ => ⟨I2.kIn, ?_⟩
  rw [hks]
  show wpAny _ _ (call (.ref f) [] (ks.zip ws)) _ _ _
  exact call_end (us := []) (vs := []) tk hr FG (bs _ hp) I2 .nil rz .nil r2 s2' rfl (by rw [← rz.length]; exact lz) q2 (hq.ext e2) (hx.ext e2)
end
end PL
/-! t[::-1] of a tuple, at the library's level -/
namespace PL
open PySem PySem.Spec PyProof.Rows HT L2
section
variable {prog : Program} {w : World} {A : Around} {E : Value → Shared → Prop} {s : Shared}
theorem back_places (n : Nat) : Builtin.Slice.slicePlaces ((n : Int) - 1) (-1) (-1) = n := by
  unfold Builtin.Slice.slicePlaces
  have h1 : ¬ ((-1 : Int) > 0) := by omega
  simp only [h1, if_false]
  have h2 : (-(-1 : Int)) = 1 := rfl
  rw [h2, Int.ediv_one]
  split <;> omega
theorem back_pick (xs : List Value) : ((List.range xs.length).filterMap fun (m : Nat) => xs.toArray[((xs.length : Int) - 1 + (m : Int) * (-1)).toNat]?) = xs.reverse := by
  have h : ∀ k, k ≤ xs.length → ((List.range k).filterMap fun (m : Nat) => xs.toArray[((xs.length : Int) - 1 + (m : Int) * (-1)).toNat]?) = xs.reverse.take k := by
    intro k
    induction k with
    | zero => intro _; rfl
    | succ k ih =>
      intro hk
      rw [List.range_succ, List.filterMap_append, ih (by omega), List.take_succ]
      congr 1
      have e : ((xs.length : Int) - 1 + (k : Int) * (-1)).toNat = xs.length - 1 - k := by omega
      rw [List.getElem?_reverse (by omega)]
      simp only [List.filterMap_cons, List.filterMap_nil, e, List.getElem?_toArray]
      cases xs[xs.length - 1 - k]? <;> rfl
  have := h xs.length (Nat.le_refl _)
  rw [this, ← List.length_reverse, List.take_length]
theorem back_applied {sl : Addr} {t : Tok} {n : Nat} {Q : Int × Int × Nat → Shared → Prop} (hs : s.heap.IsSliceOf sl .none .none (.int (-1) t))
    (h : Q ((n : Int) - 1, -1, n) s) : wpAny (model prog w) A (Builtin.Slice.sliceApplied (.ref sl) (pure (n : Int))) Q E s := by
  obtain ⟨os, hos, hcs, hds⟩ := id hs
  unfold Builtin.Slice.sliceApplied Builtin.Slice.sliceFields
  refine wpAny_bind (wpAny_bind (wpAny_field hos hds (x := .none) rfl (wpAny_bind (wpAny_field hos hds (x := .none) rfl (wpAny_bind (wpAny_field hos hds (x := .int (-1) t) rfl (wpAny_pure ?_)))))))
  refine wpAny_bind (slicePart_int ?_)
  show wpAny _ _ (if ((-1 : Int) == 0) = true then _ else _) _ _ s
  rw [if_neg (by decide)]
  refine wpAny_bind (slicePart_none (wpAny_bind (slicePart_none (wpAny_bind (wpAny_pure ?_)))))
  show wpAny _ _ (pure ((n : Int) - 1, (-1 : Int), Builtin.Slice.slicePlaces ((n : Int) - 1) (-1) (-1))) _ _ s
  rw [back_places]
  exact wpAny_pure h
theorem back_tuple {t sl : Addr} {items : List Value} {u : Tok} {Q : Value → Shared → Prop} (ht : IsTup s.heap t items.toArray) (hs : s.heap.IsSliceOf sl .none .none (.int (-1) u))
    (h : Q (.ref s.heap.objs.size) { s with heap := s.heap.push { cls := .type "tuple", data := .seq items.reverse.toArray } }) (hsz : items.length ≤ sizeLine) :
    wpAny (model prog w) A (getItem (.ref t) (.ref sl)) Q E s := by
  have hk : sizeOk (.seq items.reverse.toArray) := by
    show items.reverse.toArray.size ≤ sizeLine
    rw [List.size_toArray, List.length_reverse]; exact hsz
  obtain ⟨os, hos, hcs, hds⟩ := id hs
  have hT : s.TypeIs (.ref sl) "slice" := ⟨os, hos, hcs⟩
  unfold getItem; try with_reducible refine wpAny_holding ?_
  first | refine wpAny_bind (wpAny_pure ?_) | skip
  refine wpAny_bind (wpAny_sequenceKey ht.typeIs (by decide) (wpAny_bind (wpAny_callSpecial?_slot (name := Str.ofString "__getitem__") ht.typeIs PyProof.Rows.slot_tuple_getitem (wpAny_call_entry PyProof.Rows.slot_tuple_getitem ht.typeIs entry_tuple_getitem ?_ (args_tuple_getitem _ _)))))
  show wpAny _ _ (Builtin.Tuple.tupleItemsOf (.ref t) >>= _) _ _ s
  refine wpAny_bind (tupleItemsOf_ ht (wpAny_bind (wpAny_typeOf hT ?_)))
  rw [if_pos (by decide)]
  refine wpAny_bind (back_applied (n := items.toArray.size) hs ?_)
  have hno : ¬ ((((items.toArray.size : Nat) : Int) - 1 == 0 && (-1 : Int) == 1 && items.toArray.size == items.toArray.size) = true) := by
    intro q; simp at q
  show wpAny _ _ (if ((((items.toArray.size : Nat) : Int) - 1 == 0 && (-1 : Int) == 1 && items.toArray.size == items.toArray.size) = true) then _ else _) _ _ s
  rw [if_neg hno]
  have e : ((List.range items.toArray.size).filterMap fun (m : Nat) => items.toArray[((items.toArray.size : Int) - 1 + (m : Int) * (-1)).toNat]?).toArray = items.reverse.toArray := by
    rw [List.size_toArray, back_pick]
  rw [e]
  first
    | exact wpAny_bind (m := Builtin.Tuple.tupleExact _) (wpAny_newObj_type (wpAny_pure ⟨_, rfl, wpAny_pure h⟩) hk)
    | exact wpAny_bind (m := Builtin.Tuple.tupleExact _) (wpAny_newObj_type (wpAny_bind (wpAny_pure (wpAny_pure ⟨_, rfl, wpAny_pure h⟩))) hk)
    | exact wpAny_bind (wpAny_bind (m := Builtin.Tuple.tupleExact _) (wpAny_newObj_type (wpAny_pure (wpAny_pure ⟨_, rfl, wpAny_pure h⟩)) hk))
    | exact wpAny_bind (wpAny_bind (m := Builtin.Tuple.tupleExact _) (wpAny_newObj_type (wpAny_pure ⟨_, rfl, wpAny_pure h⟩) hk))
end
section
variable {X : Cx}
/-- xs[::-1] of a tuple -/
def tBack (K : PySem.W.Frag) (te : TE) : TE := fun σ H Q => te σ H fun x H1 => ∃ a xs, x = .ref a ∧ SqT K H1 a xs ∧ ∀ p, H1 p = none → Q (.ref p) (upd H1 p (.tup xs.reverse))
/-- of a list or of a tuple: what is asked of either -/
def tBoth (K : PySem.W.Frag) (te : TE) : TE := fun σ H Q => te σ H fun x H1 => ∃ a xs, x = .ref a ∧
  ((SqL K H1 a xs ∧ ∀ p, H1 p = none → Q (.ref p) (upd H1 p (.lst xs.reverse))) ∨ (SqT K H1 a xs ∧ ∀ p, H1 p = none → Q (.ref p) (upd H1 p (.tup xs.reverse))))
theorem pe_back {e : Expr} {te : TE} {k : Nat} {p1 p2 p3 pos : Pos} (he : PE X e te) : PE X (.Subscript e (.Slice none none (some (.UnaryOp .USub (.Constant (.int 1) k p1) p2)) p3) pos) (tBoth X.K te) := by
  refine ⟨fun pins s σ H Q I h => ?_⟩
  refine Subscript_ (thn (he.run pins s σ H _ I h) fun v s1 ⟨x, H1, I1, r1, a, xs, ex, q1⟩ => ?_); subst ex; cases r1
  have hst : PO X (some (.UnaryOp .USub (.Constant (.int 1) k p1) p2)) (tPart (tUn (rU fun i => .int (-i)) (tC (.int 1)))) := po_some (pe_un un_neg pe_int)
  refine wpAny_Slice (thn (po_none.run pins s1 σ H1 (fun o H2 => o = none ∧ H2 = H1) I1 ⟨rfl, rfl⟩) fun vl s2 ⟨l, H2, I2, pl, el, e2⟩ => ?_); subst el e2
  refine thn (po_none.run pins s2 σ H2 (fun o H3 => o = none ∧ H3 = H2) I2 ⟨rfl, rfl⟩) fun vu s3 ⟨u, H3, I3, pu, eu, e3⟩ => ?_; subst eu e3
  refine thn (hst.run pins s3 σ H3 (fun o H4 => o = some (-1) ∧ H4 = H3) I3 ⟨1, rfl, -1, rfl, rfl, rfl⟩) fun vs s4 ⟨o, H4, I4, ps, eo, e4⟩ => ?_; subst eo e4
  have J : Inv X pins σ H4 { s4 with heap := s4.heap.push { cls := .type "slice", data := .fields #[vl, vu, vs] } } := I4.kept (t' := s4.toks) fun b ob q => Heap.get?_push_of_some _ q
  show wpAny (model X.prog X.w) X.A (subscriptTail e (.Slice none none (some (.UnaryOp .USub (.Constant (.int 1) k p1) p2)) p3) (.ref a) (.ref s4.heap.objs.size)) (EP X pins σ Q) X.xe { s4 with heap := s4.heap.push { cls := .type "slice", data := .fields #[vl, vu, vs] } }
  rcases q1 with ⟨hx, q⟩ | ⟨hx, q⟩
  · obtain ⟨its, r, ht, hz⟩ := J.list hx
    have hlen := r.length
    refine tail_any (ops := [.ref a, .ref s4.heap.objs.size]) ht.isList.typeIs (PySem.slot_list_getitem.lookup) ?_ (by with_unfolding_all rfl)
    refine wpAny_getItem_list_slice ht.isList (Heap.IsSliceOf.new _ vl vu vs) pl pu ps (by decide) ?_ (by rw [List.size_toArray]; omega)
    rw [PySem.W.krv_pick]
    exact ⟨.ref _, _, J.laid (t' := s4.toks) (o := .lst xs.reverse) (fun b ob q => Heap.get?_push_of_some _ q) (Nat.le_refl _) ⟨by rw [List.length_reverse]; exact hz, _, 0, r.reverse, Heap.get?_push_size _ rfl⟩, rfl, q _ (J.hok.fresh (Nat.le_refl _))⟩
  · obtain ⟨its, r, ht, hz⟩ := J.tuple hx
    have hlen := r.length
    refine tail_any (ops := [.ref a, .ref s4.heap.objs.size]) ht.typeIs (PyProof.Rows.slot_tuple_getitem.lookup) ?_ (by with_unfolding_all rfl)
    cases pl; cases pu; cases ps
    refine back_tuple (items := its) ht (Heap.IsSliceOf.new _ _ _ _) ?_ (by omega)
    exact ⟨.ref _, _, J.laid (t' := s4.toks) (o := .tup xs.reverse) (fun b ob q => Heap.get?_push_of_some _ q) (Nat.le_refl _) ⟨by rw [List.length_reverse]; exact hz, _, r.reverse, IsTup.new _ _⟩, rfl, q _ (J.hok.fresh (Nat.le_refl _))⟩
end
end PL
namespace PL
open PySem PySem.Spec L2
/-! ### slices -/
abbrev OSl := D → Option Int → Option Int → Sto → PD → Prop
def cutD (xs : List D) (lo hi : Option Int) : List D := (xs.drop (HT.sIx xs.length 0 lo)).take (HT.sIx xs.length xs.length hi - HT.sIx xs.length 0 lo)
def oSlice : OSl := fun x lo hi S P => match x with
  | .str z => z.length ≤ sizeLine ∧ P (.str (cutS z lo hi)) S
  | .tup ds => P (.tup (cutD ds lo hi)) S
  | _ => match seqOf S x with
    | some ds => P (.lst (cutD ds lo hi)) S
    | none => False
def wPart : Option WE → Env → Sto → (Option Int → Sto → Prop) → PX → Prop
  | none, _, S, k, _ => k none S
  | some w, env, S, k, X => w env S (fun d S' => match d with
    | .int i => k (some i) S'
    | _ => False) X
def wSlice (wx : WE) (lo hi : Option WE) : WE := fun env S P X => wx env S (fun x S1 => wPart lo env S1 (fun l S2 => wPart hi env S2 (fun h S3 => oSlice x l h S3 P) X) X) X
section
variable {X : Cx} {W : WX} {e o a : Expr} {es : List Expr} {lo hi : Option Expr} {wx wo : WE} {wl wh : Option WE} {was : WA} {pos p2 apos cpos : Pos}
def tO (K : PySem.W.Frag) (mg : Str → Option Value) (W : WX) (w : Option WE) : TO := fun σ H Q => ∃ env S P X, RepE K H σ env ∧ RepS K H S ∧ wPart w env S P X ∧ (∀ o S' H', P o S' → Ext H H' → RepS K H' S' → Q o H') ∧ okX K mg W H σ X
abbrev IO (X : Cx) (W : WX) (e : Option Expr) (w : Option WE) : Prop := PO X e (tO X.K X.mg W w)
theorem io_none : IO X W none none := ⟨fun pins s σ H Q I ⟨env, S, P, x, re, rs, h, hq, hx⟩ => po_none.run pins s σ H Q I (hq none S H h (Ext.refl H) rs)⟩
theorem io_some (h : IE X W e wx) : IO X W (some e) (some wx) := ⟨fun pins s σ H Q I ⟨env, S, P, x, re, rs, hw, hq, hx⟩ => (po_some h).run pins s σ H Q I ⟨env, S, _, x, re, rs, hw, fun d S' v H' p e1 r s1 => by
  cases d with
  | int i => cases r; exact ⟨i, rfl, hq _ S' H' p e1 s1⟩
  | _ => exact p.elim, hx⟩⟩
theorem cut_rep {K : PySem.W.Frag} {H : Hp} {vs : List V} {ds : List D} (r : RepL K H vs ds) (lo hi : Option Int) : RepL K H (cutV vs lo hi) (cutD ds lo hi) := by
  unfold cutV cutD
  rw [r.length]
  exact (r.drop _).take _
theorem oSlice_of {x : D} {lo hi : Option Int} {S : Sto} {P : PD} (h : oSlice x lo hi S P) : (∃ z, x = .str z ∧ z.length ≤ sizeLine ∧ P (.str (cutS z lo hi)) S) ∨
    (∃ ds, x = .tup ds ∧ P (.tup (cutD ds lo hi)) S) ∨ ∃ ds, (∀ es, x ≠ .tup es) ∧ seqOf S x = some ds ∧ P (.lst (cutD ds lo hi)) S := by
  cases x with
  | str z => exact .inl ⟨z, rfl, h⟩
  | tup ds => exact .inr (.inl ⟨ds, rfl, h⟩)
  | lst ds => exact .inr (.inr ⟨ds, (fun _ z => nomatch z), rfl, h⟩)
  | ref a =>
    cases e : seqOf S (.ref a) with
    | none => simp only [oSlice, e] at h
    | some ds => simp only [oSlice, e] at h; exact .inr (.inr ⟨ds, (fun _ z => nomatch z), rfl, h⟩)
  | non => exact h.elim
  | bl _ => exact h.elim
  | int _ => exact h.elim
  | obj _ _ _ => exact h.elim
theorem seqL_rep {K : PySem.W.Frag} {H : Hp} {S : Sto} {v : V} {d : D} {ds : List D} (r : Rep K H v d) (rs : RepS K H S) (h : seqOf S d = some ds) (n : ∀ es, d ≠ .tup es) : ∃ p vs, v = .ref p ∧ SqL K H p vs ∧ RepL K H vs ds := by
  cases r with
  | tup h' r' => exact absurd rfl (n _)
  | lst h' r' => cases h; exact ⟨_, _, rfl, h'.sql, r'⟩
  | ref a =>
    unfold seqOf at h
    cases e : S a with
    | none => simp [e] at h
    | some o =>
      cases o with
      | oth x => simp [e] at h
      | lst es =>
        simp [e] at h
        subst h
        obtain ⟨vs, q, t⟩ := rs a _ e
        exact ⟨_, _, rfl, .of q, t⟩
  | non => cases h
  | bl _ => cases h
  | int _ => cases h
  | str _ => cases h
  | obj _ _ _ _ => cases h
theorem sl_data : SlR X (fun x lo hi H Q => ∃ d S P, Rep X.K H x d ∧ RepS X.K H S ∧ oSlice d lo hi S P ∧ okE X.K H P Q) := by
  intro pins s σ H x v vl vu lo hi sl Q I rx hs pl pu ⟨d, S, P, r, rs, ho, hq⟩
  rcases oSlice_of ho with ⟨z, rfl, hz, q⟩ | ⟨ds, rfl, q⟩ | ⟨ds, hn, es, q⟩
  · cases r
    exact L2.sl_str pins s σ H _ v vl vu lo hi sl Q I rx hs pl pu ⟨z, rfl, hz, hq.here q (.str _) rs⟩
  · cases r with
    | tup h1 t1 =>
      refine sl_tupA pins s σ H _ v vl vu lo hi sl Q I rx hs pl pu ⟨_, _, rfl, h1, fun ⟨w1, w2⟩ => ?_, fun _ p np => hq _ S _ _ q (Ext.new np) (.tup (.of upd_same) ((cut_rep t1 lo hi).ext (Ext.new np))) (rs.new np)⟩
      have e : cutD ds lo hi = ds := by
        rw [t1.length] at w1 w2
        unfold cutD
        rw [w1, w2, List.drop_zero, Nat.sub_zero, List.take_length]
      rw [e] at q
      exact hq.here q (.tup h1 t1) rs
  · obtain ⟨p, vs, rfl, hl, t⟩ := seqL_rep r rs es hn
    obtain ⟨T, id, h1, h2, h3⟩ := sl_list pins s σ H _ v vl vu lo hi sl (fun v H' => ∃ p, v = .ref p ∧ H p = none ∧ H' = upd H p (.lst (cutV vs lo hi))) I rx hs pl pu ⟨p, vs, rfl, hl, fun p np => ⟨p, rfl, np, rfl⟩⟩
    refine ⟨T, id, h1, h2, thn h3 fun u s1 ⟨v', H', I', rv, p, ev, np, eH⟩ => ?_⟩
    subst ev; subst eH
    obtain ⟨ob, J⟩ := freeze I' upd_same
    rw [upd_upd] at J
    exact ⟨.ref p, _, J, rv, hq _ S _ _ q (Ext.new np) (.lst (.inl ⟨ob, upd_same⟩) ((cut_rep t lo hi).ext (Ext.new np))) (rs.new np)⟩
theorem ie_slice (he : IE X W e wx) (hl : IO X W lo wl) (hu : IO X W hi wh) : IE X W (.Subscript e (.Slice lo hi none p2) pos) (wSlice wx wl wh) :=
  (pe_slice sl_data he hl hu).of fun σ H Q ⟨env, S, P, x, re, rs, h, hq, hx⟩ => ⟨env, S, _, x, re, rs, h, fun d S1 v1 H1 p1 e1 r1 s1 => ⟨env, S1, _, x, re.ext e1, s1, p1, fun l S2 H2 q2 e2 s2 => ⟨env, S2, _, x, (re.ext e1).ext e2, s2, q2, fun u S3 H3 q3 e3 s3 =>
    ⟨d, S3, P, (r1.ext e2).ext e3, s3, q3, hq.ext ((e1.trans e2).trans e3)⟩, hx.ext (e1.trans e2)⟩, hx.ext e1⟩, hx⟩
/-- xs[::-1] of a list or a tuple -/
def wRev (wx : WE) : WE := fun env S P X => wx env S (fun x S' => match x with
  | .tup ds => P (.tup ds.reverse) S'
  | _ => match seqOf S' x with
    | some ds => P (.lst ds.reverse) S'
    | none => False) X
theorem ie_rev {k : Nat} {p1 p3 : Pos} (he : IE X W e wx) : IE X W (.Subscript e (.Slice none none (some (.UnaryOp .USub (.Constant (.int 1) k p1) p2)) p3) pos) (wRev wx) := by
  refine ⟨fun pins s σ H Q I ⟨env, S, P, x, re, rs, hw, hq, hx⟩ => ?_⟩
  refine thn ((pe_back he).run pins s σ H (fun v H' => (∃ p ds vs H1 S1, v = .ref p ∧ H1 p = none ∧ H' = upd H1 p (.lst vs) ∧ RepL X.K H1 vs ds ∧ RepS X.K H1 S1 ∧ Ext H H1 ∧ P (.lst ds) S1) ∨
      (∃ p ds vs H1 S1, v = .ref p ∧ H1 p = none ∧ H' = upd H1 p (.tup vs) ∧ RepL X.K H1 vs ds ∧ RepS X.K H1 S1 ∧ Ext H H1 ∧ P (.tup ds) S1)) I
    ⟨env, S, _, x, re, rs, hw, fun d S1 v H1 q e1 r1 s1 => ?_, hx⟩) fun u s1 ⟨v, H', I', rv, hh⟩ => ?_
  · by_cases ht : ∃ es, d = .tup es
    · obtain ⟨es, rfl⟩ := ht
      cases r1 with
      | tup h1 t1 => exact ⟨_, _, rfl, .inr ⟨h1, fun l nl => .inr ⟨l, es.reverse, _, H1, S1, rfl, nl, rfl, t1.rev, s1, e1, q⟩⟩⟩
    · have hn : ∀ es, d ≠ .tup es := fun es z => ht ⟨es, z⟩
      have hs : ∃ ds, seqOf S1 d = some ds ∧ P (.lst ds.reverse) S1 := by
        cases d with
        | tup es => exact (ht ⟨es, rfl⟩).elim
        | lst ds => exact ⟨ds, rfl, q⟩
        | ref a =>
          cases e : seqOf S1 (.ref a) with
          | none => simp only [e] at q
          | some ds => simp only [e] at q; exact ⟨ds, rfl, q⟩
        | str _ => exact q.elim
        | non => exact q.elim
        | bl _ => exact q.elim
        | int _ => exact q.elim
        | obj _ _ _ => exact q.elim
      obtain ⟨ds, es, q⟩ := hs
      obtain ⟨p, vs, rfl, hl, t⟩ := seqL_rep r1 s1 es hn
      exact ⟨p, vs, rfl, .inl ⟨hl, fun l nl => .inl ⟨l, ds.reverse, vs.reverse, H1, S1, rfl, nl, rfl, t.rev, s1, e1, q⟩⟩⟩
  · rcases hh with ⟨p, ds, vs, H1, S1, ev, np, eH, r1, s1', e1, q⟩ | ⟨p, ds, vs, H1, S1, ev, np, eH, r1, s1', e1, q⟩
    · subst ev; subst eH
      obtain ⟨ob, J⟩ := freeze I' upd_same
      rw [upd_upd] at J
      exact ⟨.ref p, _, J, rv, hq _ S1 _ _ q (e1.trans (Ext.new np)) (.lst (.inl ⟨ob, upd_same⟩) (r1.ext (Ext.new np))) (s1'.new np)⟩
    · subst ev; subst eH
      exact ⟨.ref p, _, I', rv, hq _ S1 _ _ q (e1.trans (Ext.new np)) (.tup (.of upd_same) (r1.ext (Ext.new np))) (s1'.new np)⟩
/-- as a new list that may change -/
def wRevN (wx : WE) : WE := fun env S P X => wx env S (fun x S' => match x with
  | .tup _ => False
  | _ => match seqOf S' x with
    | some ds => ∀ p, S' p = none → P (.ref p) (sput S' p (.lst ds.reverse))
    | none => False) X
theorem ie_revN {k : Nat} {p1 p3 : Pos} (he : IE X W e wx) : IE X W (.Subscript e (.Slice none none (some (.UnaryOp .USub (.Constant (.int 1) k p1) p2)) p3) pos) (wRevN wx) :=
  (pe_revL he).of fun σ H Q ⟨env, S, P, x, re, rs, hw, hq, hx⟩ => ⟨env, S, _, x, re, rs, hw, fun d S1 v H1 q e1 r1 s1 => by
    have hn : ∀ es, d ≠ .tup es := fun es z => by subst z; exact q
    have hs : ∃ ds, seqOf S1 d = some ds ∧ ∀ p, S1 p = none → P (.ref p) (sput S1 p (.lst ds.reverse)) := by
      cases d with
      | tup _ => exact q.elim
      | lst ds => exact ⟨ds, rfl, q⟩
      | ref a =>
        cases e : seqOf S1 (.ref a) with
        | none => simp only [e] at q
        | some ds => simp only [e] at q; exact ⟨ds, rfl, q⟩
      | str _ => exact q.elim
      | non => exact q.elim
      | bl _ => exact q.elim
      | int _ => exact q.elim
      | obj _ _ _ => exact q.elim
    obtain ⟨ds, es, q⟩ := hs
    obtain ⟨p, vs, rfl, hl, t⟩ := seqL_rep r1 s1 es hn
    exact ⟨p, vs, rfl, hl, fun l nl => hq _ _ _ _ (q l (s1.free nl)) (e1.trans (Ext.new nl)) (.ref l) (s1.newL nl t.rev)⟩, hx⟩
/-! ### methods of lists that change -/
def oApp : O2 := fun x y S P => match x with
  | .ref a => match S a with
    | some (.lst ds) => ds.length < sizeLine ∧ P .non (sput S a (.lst (ds ++ [y])))
    | _ => False
  | _ => False
def oPop : O1 := fun x S P => match x with
  | .ref a => match S a with
    | some (.lst ds) => match ds[ds.length - 1]? with
      | some d => P d (sput S a (.lst ds.dropLast))
      | none => False
    | _ => False
  | _ => False
/-- it is a list now -/
def isL (S : Sto) (x : D) : Prop := match x with
  | .ref a => match S a with
    | some (.lst _) => True
    | _ => False
  | _ => False
def wApp (wo w : WE) : WE := fun env S P X => wo env S (fun x S1 => isL S1 x ∧ w env S1 (fun y S2 => oApp x y S2 P) X) X
def wPop (wo : WE) : WE := fun env S P X => wo env S (fun x S1 => oPop x S1 P) X
theorem oApp_of {x y : D} {S : Sto} {P : PD} (h : oApp x y S P) : ∃ a ds, x = .ref a ∧ S a = some (.lst ds) ∧ ds.length < sizeLine ∧ P .non (sput S a (.lst (ds ++ [y]))) := by
  cases x with
  | ref a =>
    cases e : S a with
    | none => simp only [oApp, e] at h
    | some z =>
      cases z with
      | oth x => simp only [oApp, e] at h
      | lst ds => simp only [oApp, e] at h; exact ⟨a, ds, rfl, e, h⟩
  | _ => exact h.elim
theorem oPop_of {x : D} {S : Sto} {P : PD} (h : oPop x S P) : ∃ a ds d, x = .ref a ∧ S a = some (.lst ds) ∧ ds[ds.length - 1]? = some d ∧ P d (sput S a (.lst ds.dropLast)) := by
  cases x with
  | ref a =>
    cases e : S a with
    | none => simp only [oPop, e] at h
    | some z =>
      cases z with
      | oth x => simp only [oPop, e] at h
      | lst ds =>
        cases e2 : ds[ds.length - 1]? with
        | none => simp only [oPop, e, e2] at h
        | some d => simp only [oPop, e, e2] at h; exact ⟨a, ds, d, rfl, e, e2, h⟩
  | _ => exact h.elim
theorem stays {K : PySem.W.Frag} {H H' : Hp} {S : Sto} {a : Addr} {ds : List D} {vs : List V} (rs : RepS K H' S) (e : S a = some (.lst ds)) (h : H' a = some (.lst vs)) : RepL K H' vs ds := by
  obtain ⟨us, q, t⟩ := rs a _ e
  rw [h] at q
  cases q
  exact t
theorem isL_ty {K : PySem.W.Frag} {H : Hp} {S : Sto} {v : V} {d : D} (r : Rep K H v d) (rs : RepS K H S) (h : isL S d) : tyV K "list" v H := by
  cases r with
  | ref a =>
    cases e : S a with
    | none => simp only [isL, e] at h
    | some o =>
      cases o with
      | oth x => simp only [isL, e] at h
      | lst es =>
        obtain ⟨vs, q, t⟩ := rs a _ e
        exact .inl ⟨rfl, vs, .of q⟩
  | _ => exact h.elim
theorem ie_append (ho : IE X W o wo) (he : IE X W e wx) (hbase : attributeBase o "append" X.env (eval o X.env) = eval o X.env) (hline : (apos.endLine == cpos.line) = true)
    (hfew : ((backTo cpos (starEach [e] X.env)).all (fun x => !x.1) && (backToKw cpos (keywordEach [] X.env)).all (fun x => x.1.isSome) && decide ([e].length + ([] : List Keyword).length + (if ([] : List Keyword).isEmpty then 0 else 1) < 30)) = true)
    (hs : starEach [e] X.env = (false, eval e X.env) :: starEach [] X.env) : IE X W (.Call (.Attribute o "append" apos) [e] [] cpos) (wApp wo wx) := by
  refine (pe_bm PySem.F.plainAttrs_list PySem.F.slot_list_append PySem.F.type_list_append mt_append ho (pa_cons he pa_nil hs) hbase hfew hline hs rfl).of fun σ H Q ⟨env, S, P, x, re, rs, hw, hq, hx⟩ => ?_
  refine ⟨env, S, _, x, re, rs, hw, fun d S1 v H1 q e1 r1 s1 => ⟨isL_ty r1 s1 q.1, env, S1, _, x, re.ext e1, s1, q.2, fun y S2 u H2 q2 e2 r2 s2 => ?_, hx.ext e1⟩, hx⟩
  obtain ⟨a, ds, rfl, eS, hz, q3⟩ := oApp_of q2
  cases r1
  obtain ⟨vs, eH, t⟩ := s2 a _ eS
  exact ⟨a, vs, u, rfl, rfl, eH, by rw [t.length]; exact hz, hq _ _ _ _ q3 ((e1.trans e2).trans (Ext.put eH)) .non (s2.putL eH (t.append (.cons r2 .nil)))⟩
theorem ie_pop (ho : IE X W o wo) (hbase : attributeBase o "pop" X.env (eval o X.env) = eval o X.env) (hline : (apos.endLine == cpos.line) = true) : IE X W (.Call (.Attribute o "pop" apos) [] [] cpos) (wPop wo) := by
  refine (pe_bm0 PySem.F.plainAttrs_list PySem.F.slot_list_pop PySem.F.type_list_pop mt_pop ho hbase hline).of fun σ H Q ⟨env, S, P, x, re, rs, hw, hq, hx⟩ => ?_
  refine ⟨env, S, _, x, re, rs, hw, fun d S1 v H1 q e1 r1 s1 => ?_, hx⟩
  obtain ⟨a, ds, y, rfl, eS, ey, q3⟩ := oPop_of q
  cases r1
  obtain ⟨vs, eH, t⟩ := s1 a _ eS
  obtain ⟨u, eu, ru⟩ := t.get ey
  exact ⟨.inl ⟨rfl, vs, .of eH⟩, a, vs, u, rfl, rfl, eH, by rw [t.length]; exact eu, hq _ _ _ _ q3 (e1.trans (Ext.put eH)) (ru.ext (Ext.put eH)) (s1.putL eH t.dropLast)⟩
end
/-! ### comprehensions -/
def sdel (S : Sto) (a : Addr) : Sto := fun b => if b = a then none else S b
def Sub (S' S : Sto) : Prop := ∀ a o, S' a = some o → S a = some o
theorem Sub.refl (S : Sto) : Sub S S := fun _ _ e => e
theorem RepS.sub {K : PySem.W.Frag} {H : Hp} {S S' : Sto} (r : RepS K H S) (h : Sub S' S) : RepS K H S' := fun a o e => r a o (h a o e)
theorem sdel_sub (S : Sto) (a : Addr) : Sub (sdel S a) S := fun b o e => by
  unfold sdel at e
  split at e
  · cases e
  · exact e
theorem sdel_put {S : Sto} {a : Addr} {o : DO} (h : S a = none) : sdel (sput S a o) a = S := by
  funext b
  unfold sdel sput
  by_cases hb : b = a
  · rw [if_pos hb, hb, h]
  · rw [if_neg hb, if_neg hb]
/-- the block's own names are forgotten -/
def wipeD (env : Env) : List Nat → Env
  | [] => env
  | v :: vs => (wipeD env vs).set v none
/-- one more item -/
def lcPut (p : Addr) (y : D) (k : Sto → Prop) (S : Sto) : Prop := match S p with
  | some (.lst acc) => acc.length < sizeLine ∧ k (sput S p (.lst (acc ++ [y])))
  | _ => False
def lcEnd (P : PD) (p : Addr) (S : Sto) : Prop := match S p with
  | some (.lst out) => P (.lst out) (sdel S p)
  | _ => False
theorem lcPut_of {p : Addr} {y : D} {k : Sto → Prop} {S : Sto} (h : lcPut p y k S) : ∃ acc, S p = some (.lst acc) ∧ acc.length < sizeLine ∧ k (sput S p (.lst (acc ++ [y]))) := by
  unfold lcPut at h
  split at h
  · exact ⟨_, by assumption, h⟩
  · exact h.elim
theorem lcEnd_of {P : PD} {p : Addr} {S : Sto} (h : lcEnd P p S) : ∃ out, S p = some (.lst out) ∧ P (.lst out) (sdel S p) := by
  unfold lcEnd at h
  split at h
  · exact ⟨_, by assumption, h⟩
  · exact h.elim
def lcD (g : WG) (t : WB) (w : WE) (vs : List Nat) (env : Env) (p : Addr) (k : Sto → Prop) : List D → Sto → Prop
  | [], S => k S
  | d :: ds, S => g d (wipeD env vs) S (fun e1 S1 => t e1 S1 (fun b S2 => if b = true then w e1 S2 (fun y S3 => lcPut p y (lcD g t w vs env p k ds) S3) (fun _ _ => False) else lcD g t w vs env p k ds S2) (fun _ _ => False)) (fun _ _ => False)
def wLc (wi : WI) (g : WG) (t : WB) (w : WE) (vs : List Nat) : WE := fun env S P X => wi env S (fun ds S1 => ∀ p, S1 p = none → lcD g t w vs env p (lcEnd P p) ds (sput S1 p (.lst []))) X
def tYesD : WB := fun _ S P _ => P true S
section
variable {X : Cx} {W : WX}
/-- within a block nothing is let out -/
abbrev W0 : WX := fun _ _ _ _ => False
abbrev ITs (X : Cx) (ifs : List Expr) (w : WB) : Prop := PTs X ifs (tT X.K X.mg W0 w)
theorem its_nil : ITs X [] tYesD := ⟨fun pins s σ H Q I ⟨env, S, P, x, re, rs, h, hq, hx⟩ => pts_nil.run pins s σ H Q I (hq true S H h (Ext.refl H) rs)⟩
theorem its_one {c : Expr} {t : WB} (h : IT X W0 c t) : ITs X [c] t := pts_one h
theorem wipe_rep {K : PySem.W.Frag} {H : Hp} {σ : St} {env : Env} (r : RepE K H σ env) : ∀ vs : List Nat, RepE K H (wipe σ vs) (wipeD env vs)
  | [] => r
  | v :: vs => (wipe_rep r vs).forget
theorem wipe_but {vs : List Nat} {σ σ' : St} (h : But vs σ σ') : wipe σ' vs = wipe σ vs := by
  apply List.ext_getElem?
  intro i
  by_cases hi : i ∈ vs
  · have side : ∀ (vs : List Nat) (τ : St) (i : Nat), i ∈ vs → (wipe τ vs)[i]? = if i < τ.length then some none else none := by
      intro vs
      induction vs with
      | nil => intro τ i h; cases h
      | cons v r ih =>
        intro τ i h
        show ((wipe τ r).set v none)[i]? = _
        by_cases hv : v = i
        · subst hv
          rw [List.getElem?_set]
          simp [wipe_length]
        · rw [List.getElem?_set_ne hv]
          exact ih τ i (by rcases List.mem_cons.mp h with z | z; exact absurd z.symm hv; exact z)
    rw [side vs σ' i hi, side vs σ i hi, h.1]
  · rw [wipe_out hi, wipe_out hi]
    exact h.2 i hi
theorem lc_wish {own : List (Str × Nat)} {wi : WI} {g : WG} {t : WB} {w : WE} {σ : St} {H : Hp} {env : Env} {S : Sto} {P : PD} {x : PX} {Q : VK} (hQ : ∀ v H', (∃ p vs out S2, v = .ref p ∧ H' p = some (.lst vs) ∧ RepL X.K H' vs out ∧ RepS X.K H' (sdel S2 p) ∧ Ext H H' ∧ P (.lst out) (sdel S2 p)) → Q v H') (re : RepE X.K H σ env) (rs : RepS X.K H S) (hw : wLc wi g t w (own.map (fun q : Str × Nat => q.2)) env S P x) (hx : okX X.K X.mg W H σ x) :
    tLc (tI X.K X.mg W wi) (tG X.K X.mg W0 (own.map (fun q : Str × Nat => q.2)) g) (tT X.K X.mg W0 t) (tE X.K X.mg W0 w) (own.map (fun q : Str × Nat => q.2)) σ H Q := by
  refine ⟨env, S, _, x, re, rs, hw, hx, fun ds S1 J H1 G q e1 s1 hG wk p np => ?_⟩
  have q0 := q p (s1.free np)
  have en : Ext H1 (upd H1 p (.lst [])) := Ext.new np
  refine ⟨fun i m H2 => i + m = ds.length ∧ ∃ S2, Ext H H2 ∧ RepS X.K H2 S2 ∧ G H2 ∧ lcD g t w (own.map (fun q : Str × Nat => q.2)) env p (lcEnd P p) (ds.drop i) S2, ⟨ds.length, by omega, _, e1.trans en, s1.newL np .nil, wk.stay _ _ hG en, q0⟩, fun i m H2 ⟨hm, S2, e2, s2, hG2, q2⟩ => ?_⟩
  by_cases hl : i < ds.length
  · have ed : ds.drop i = ds[i] :: ds.drop (i + 1) := List.drop_eq_getElem_cons hl
    rw [ed] at q2
    refine .inr ⟨wk.go i H2 hG2 hl, fun H3 => i + 1 + (m - 1) = ds.length ∧ ∃ S3, Ext H H3 ∧ RepS X.K H3 S3 ∧ G H3 ∧ lcD g t w (own.map (fun q : Str × Nat => q.2)) env p (lcEnd P p) (ds.drop (i + 1)) S3, fun H3 h3 => ⟨m - 1, by omega, h3⟩, fun v H3 hy => ?_⟩
    obtain ⟨e3, r3, k3, _⟩ := wk.yld i H2 v H3 ds[i] hG2 (List.getElem?_eq_getElem hl) hy
    refine ⟨ds[i], wipeD env (own.map (fun q : Str × Nat => q.2)), S2, _, _, r3, (wipe_rep (re.ext (e2.trans e3)) _), k3 S2 s2, q2, fun env4 S4 σ4 H4 p4 e4 r4 s4 b4 => ?_, fun _ _ _ _ _ _ _ (z : False) => z.elim⟩
    refine ⟨?_, env4, S4, _, _, r4, s4, p4, fun b S5 H5 p5 e5 s5 => ?_, fun _ _ _ _ _ (z : False) => z.elim⟩
    · rw [wipe_but b4]
      have ww : ∀ (vs : List Nat) (τ : St), wipe (wipe τ vs) vs = wipe τ vs := fun vs τ => by
        refine wipe_but ⟨wipe_length _ _, fun i hi => wipe_out hi⟩
      exact ww _ _
    · cases b with
      | true =>
        refine ⟨env4, S5, _, _, r4.ext e5, s5, p5, fun y S6 u H6 p6 e6 r6 s6 => ?_, fun _ _ _ _ _ (z : False) => z.elim⟩
        obtain ⟨acc, eS, hz, q6⟩ := lcPut_of p6
        obtain ⟨vs, eH, tl⟩ := s6 p _ eS
        have ex : Ext H3 (upd H6 p (.lst (vs ++ [u]))) := ((e4.trans e5).trans e6).trans (Ext.put eH)
        exact ⟨vs, eH, by rw [tl.length]; exact hz, by omega, _, (e2.trans e3).trans ex, s6.putL eH (tl.append (.cons r6 .nil)), wk.stay _ _ hG2 (e3.trans ex), q6⟩
      | false => exact ⟨by omega, S5, (e2.trans e3).trans (e4.trans e5), s5, wk.stay _ _ hG2 (e3.trans (e4.trans e5)), p5⟩
  · have ed : ds.drop i = [] := List.drop_eq_nil_of_le (by omega)
    rw [ed] at q2
    refine .inl ⟨wk.stop i H2 hG2 (by omega), ?_⟩
    obtain ⟨out, eS, q3⟩ := lcEnd_of q2
    obtain ⟨vs, eH, tl⟩ := s2 p _ eS
    exact hQ _ _ ⟨p, vs, out, S2, rfl, eH, tl, s2.sub (sdel_sub _ _), e2, q3⟩
theorem ie_lc {elt tg iter : Expr} {ifs : List Expr} {scope : Scope} {own : List (Str × Nat)} {pos : Pos} {wi : WI} {g : WG} {t : WB} {w : WE} (hc : X.calm = true) (hN : X.N.Nodup) (hi : II X W tg iter wi) (ok : BlkOk X.N X.env.scope scope own)
    (hg : ∀ (s : Shared) (H : Hp) (C : Addr) (cl : List (Str × Addr)) (fp : List Addr), IG (X.blk s H scope (compEnvC scope cl C X.env) fp) W0 (own.map (fun q : Str × Nat => q.2)) tg g)
    (ht : ∀ (s : Shared) (H : Hp) (C : Addr) (cl : List (Str × Addr)) (fp : List Addr), ITs (X.blk s H scope (compEnvC scope cl C X.env) fp) ifs t)
    (he : ∀ (s : Shared) (H : Hp) (C : Addr) (cl : List (Str × Addr)) (fp : List Addr), IE (X.blk s H scope (compEnvC scope cl C X.env) fp) W0 elt w)
    (hs : ∀ x, foldedSetIterable iter X.env x = pure x) : IE X W (.ListComp elt [⟨tg, iter, ifs, 0⟩] scope pos) (wLc wi g t w (own.map (fun q : Str × Nat => q.2))) := by
  refine ⟨fun pins s σ H Q I ⟨env, S, P, x, re, rs, hw, hq, hx⟩ => ?_⟩
  refine thn ((pe_lc (g := tG X.K X.mg W0 (own.map (fun q : Str × Nat => q.2)) g) (tt := tT X.K X.mg W0 t) (te := tE X.K X.mg W0 w) hc hN hi ok hg ht he hs).run pins s σ H (fun v H' => ∃ p vs out S2, v = .ref p ∧ H' p = some (.lst vs) ∧ RepL X.K H' vs out ∧ RepS X.K H' (sdel S2 p) ∧ Ext H H' ∧ P (.lst out) (sdel S2 p)) I (lc_wish (fun _ _ z => z) re rs hw hx)) fun u s1 ⟨v, H', I', rv, p, vs, out, S2, ev, hp, r1, s1', e1, q⟩ => ?_
  subst ev
  obtain ⟨ob, J⟩ := freeze I' hp
  have ee : Ext H' (upd H' p (.frz ob (.lst vs))) := Ext.put hp
  refine ⟨.ref p, _, J, rv, hq _ _ _ _ q (e1.trans ee) (.lst (.inl ⟨ob, upd_same⟩) (r1.ext ee)) fun a o eo => ?_⟩
  have ha : a ≠ p := fun z => by
    subst z
    unfold sdel at eo
    rw [if_pos rfl] at eo
    cases eo
  have t := s1' a o eo
  cases o with
  | oth x => exact RepY.ext t ee (upd_ne ha)
  | lst es =>
    obtain ⟨ws, w1, w2⟩ := t
    exact ⟨ws, by rw [upd_ne ha]; exact w1, w2.ext ee⟩
theorem is_setLc {i : Nat} {y : Str} {py : Pos} {elt tg iter : Expr} {ifs : List Expr} {scope : Scope} {own : List (Str × Nat)} {pos spos : Pos} {wi : WI} {g : WG} {t : WB} {w : WE} (hc : X.calm = true) (hN : X.N.Nodup) (hy : X.N[i]? = some y) (hyl : X.env.scope.names.lookup y = some .local)
    (hsw : swapsWith (.ListComp elt [⟨tg, iter, ifs, 0⟩] scope pos) (some (.Name y py)) spos.line X.env = pure true) (hi : II X W tg iter wi) (ok : BlkOk X.N X.env.scope scope own)
    (hg : ∀ (s : Shared) (H : Hp) (C : Addr) (cl : List (Str × Addr)) (fp : List Addr), IG (X.blk s H scope (compEnvC scope cl C X.env) fp) W0 (own.map (fun q : Str × Nat => q.2)) tg g)
    (ht : ∀ (s : Shared) (H : Hp) (C : Addr) (cl : List (Str × Addr)) (fp : List Addr), ITs (X.blk s H scope (compEnvC scope cl C X.env) fp) ifs t)
    (he : ∀ (s : Shared) (H : Hp) (C : Addr) (cl : List (Str × Addr)) (fp : List Addr), IE (X.blk s H scope (compEnvC scope cl C X.env) fp) W0 elt w)
    (hs : ∀ x, foldedSetIterable iter X.env x = pure x) : IS X W (.Assign [.Name y py] (.ListComp elt [⟨tg, iter, ifs, 0⟩] scope pos) spos) (sSet (wLc wi g t w (own.map (fun q : Str × Nat => q.2))) (gVar i)) := by
  refine ⟨fun pins s σ H D I ⟨env, S, P, x, re, rs, hw, hq, hx⟩ => ?_⟩
  refine thn ((ps_setLc (g := tG X.K X.mg W0 (own.map (fun q : Str × Nat => q.2)) g) (tt := tT X.K X.mg W0 t) (te := tE X.K X.mg W0 w) hc hN hy hyl hsw hi ok hg ht he hs).run pins s σ H { nx := fun σ' H' => ∃ v, σ' = σ.set i (some v) ∧ ∃ p vs out S2, v = .ref p ∧ H' p = some (.lst vs) ∧ RepL X.K H' vs out ∧ RepS X.K H' (sdel S2 p) ∧ Ext H H' ∧ gVar i (.lst out) env (sdel S2 p) P.nx (fun _ _ => False), rt := fun _ _ => False } I ?_) fun f s1 hsp => ?_
  · exact lc_wish (fun v H' q => ⟨v, rfl, q⟩) re rs hw (hx.at re)
  · cases f with
    | next =>
      obtain ⟨σ', H', I', v, e0, p, vs, out, S2, ev, hp, r1, s1', e1, q⟩ := hsp
      subst ev; subst e0
      obtain ⟨ob, J⟩ := freeze I' hp
      have ee : Ext H' (upd H' p (.frz ob (.lst vs))) := Ext.put hp
      refine ⟨_, _, J, hq.nx _ _ _ _ q (e1.trans ee) ((re.ext (e1.trans ee)).set (.lst (.inl ⟨ob, upd_same⟩) (r1.ext ee))) fun a o eo => ?_⟩
      have ha : a ≠ p := fun z => by
        subst z
        unfold sdel at eo
        rw [if_pos rfl] at eo
        cases eo
      have t := s1' a o eo
      cases o with
      | oth x => exact RepY.ext t ee (upd_ne ha)
      | lst es =>
        obtain ⟨ws, w1, w2⟩ := t
        exact ⟨ws, by rw [upd_ne ha]; exact w1, w2.ext ee⟩
    | brk => obtain ⟨_, _, _, z⟩ := hsp; exact z.elim
    | cont => obtain ⟨_, _, _, z⟩ := hsp; exact z.elim
    | ret u => obtain ⟨_, _, _, _, _, z⟩ := hsp; exact z.elim
/-- as a new list that may change -/
def lcEndN (P : PD) (p : Addr) (S : Sto) : Prop := match S p with
  | some (.lst _) => P (.ref p) S
  | _ => False
theorem lcEndN_of {P : PD} {p : Addr} {S : Sto} (h : lcEndN P p S) : ∃ out, S p = some (.lst out) ∧ P (.ref p) S := by
  unfold lcEndN at h
  split at h
  · exact ⟨_, by assumption, h⟩
  · exact h.elim
def wLcN (wi : WI) (g : WG) (t : WB) (w : WE) (vs : List Nat) : WE := fun env S P X => wi env S (fun ds S1 => ∀ p, S1 p = none → lcD g t w vs env p (lcEndN P p) ds (sput S1 p (.lst []))) X
/-- ahead of a statement a list is locked for good -/
def sPre (i : Nat) (u : WS) : WS := fun P X env S => match env[i]? with
  | some (some (.ref a)) => match S a with
    | some (.lst ds) => u P X (env.set i (some (.lst ds))) (sdel S a)
    | _ => False
  | _ => u P X env S
theorem is_pre {st : Stmt} {i : Nat} {u : WS} (h : IS X W st u) : IS X W st (sPre i u) := by
  refine ⟨fun pins s σ H D I ⟨env, S, P, x, re, rs, hw, hq, hx⟩ => ?_⟩
  have gen : u P x env S → _ := fun hw => h.run pins s σ H D I ⟨env, S, P, x, re, rs, hw, hq, hx⟩
  unfold sPre at hw
  split at hw
  · rename_i a ea
    split at hw
    · rename_i ds eS
      obtain ⟨vs, eH, rl⟩ := rs a _ eS
      obtain ⟨ob, J⟩ := freeze I eH
      have ee : Ext H (upd H a (.frz ob (.lst vs))) := Ext.put eH
      obtain ⟨v, ev, rv⟩ := re.get i _ ea
      cases rv
      refine h.run pins s σ _ D J ⟨env.set i (some (.lst ds)), sdel S a, P, x, ?_, fun b o eo => ?_, hw, hq.ext ee, hx.ext ee⟩
      · have hs : σ = σ.set i (some (.ref a)) := by
          obtain ⟨hl, e2⟩ := List.getElem?_eq_some_iff.mp ev
          rw [← e2, List.set_getElem_self]
        rw [hs]
        exact (re.ext ee).set (.lst (.inl ⟨ob, upd_same⟩) (rl.ext ee))
      · have hb : b ≠ a := fun z => by
          subst z
          unfold sdel at eo
          rw [if_pos rfl] at eo
          cases eo
        have t := (rs.sub (sdel_sub S a)) b o eo
        cases o with
        | oth x => exact RepY.ext t ee (upd_ne hb)
        | lst es =>
          obtain ⟨ws, w1, w2⟩ := t
          exact ⟨ws, by rw [upd_ne hb]; exact w1, w2.ext ee⟩
    · exact hw.elim
  · exact gen hw
theorem lc_wishN {own : List (Str × Nat)} {wi : WI} {g : WG} {t : WB} {w : WE} {σ : St} {H : Hp} {env : Env} {S : Sto} {P : PD} {x : PX} {Q : VK} (hQ : ∀ v H', (∃ p vs out S2, v = .ref p ∧ H' p = some (.lst vs) ∧ RepL X.K H' vs out ∧ RepS X.K H' S2 ∧ Ext H H' ∧ P (.ref p) S2) → Q v H') (re : RepE X.K H σ env) (rs : RepS X.K H S) (hw : wLcN wi g t w (own.map (fun q : Str × Nat => q.2)) env S P x) (hx : okX X.K X.mg W H σ x) :
    tLc (tI X.K X.mg W wi) (tG X.K X.mg W0 (own.map (fun q : Str × Nat => q.2)) g) (tT X.K X.mg W0 t) (tE X.K X.mg W0 w) (own.map (fun q : Str × Nat => q.2)) σ H Q := by
  refine ⟨env, S, _, x, re, rs, hw, hx, fun ds S1 J H1 G q e1 s1 hG wk p np => ?_⟩
  have q0 := q p (s1.free np)
  have en : Ext H1 (upd H1 p (.lst [])) := Ext.new np
  refine ⟨fun i m H2 => i + m = ds.length ∧ ∃ S2, Ext H H2 ∧ RepS X.K H2 S2 ∧ G H2 ∧ lcD g t w (own.map (fun q : Str × Nat => q.2)) env p (lcEndN P p) (ds.drop i) S2, ⟨ds.length, by omega, _, e1.trans en, s1.newL np .nil, wk.stay _ _ hG en, q0⟩, fun i m H2 ⟨hm, S2, e2, s2, hG2, q2⟩ => ?_⟩
  by_cases hl : i < ds.length
  · have ed : ds.drop i = ds[i] :: ds.drop (i + 1) := List.drop_eq_getElem_cons hl
    rw [ed] at q2
    refine .inr ⟨wk.go i H2 hG2 hl, fun H3 => i + 1 + (m - 1) = ds.length ∧ ∃ S3, Ext H H3 ∧ RepS X.K H3 S3 ∧ G H3 ∧ lcD g t w (own.map (fun q : Str × Nat => q.2)) env p (lcEndN P p) (ds.drop (i + 1)) S3, fun H3 h3 => ⟨m - 1, by omega, h3⟩, fun v H3 hy => ?_⟩
    obtain ⟨e3, r3, k3, _⟩ := wk.yld i H2 v H3 ds[i] hG2 (List.getElem?_eq_getElem hl) hy
    refine ⟨ds[i], wipeD env (own.map (fun q : Str × Nat => q.2)), S2, _, _, r3, (wipe_rep (re.ext (e2.trans e3)) _), k3 S2 s2, q2, fun env4 S4 σ4 H4 p4 e4 r4 s4 b4 => ?_, fun _ _ _ _ _ _ _ (z : False) => z.elim⟩
    refine ⟨?_, env4, S4, _, _, r4, s4, p4, fun b S5 H5 p5 e5 s5 => ?_, fun _ _ _ _ _ (z : False) => z.elim⟩
    · rw [wipe_but b4]
      have ww : ∀ (vs : List Nat) (τ : St), wipe (wipe τ vs) vs = wipe τ vs := fun vs τ => by
        refine wipe_but ⟨wipe_length _ _, fun i hi => wipe_out hi⟩
      exact ww _ _
    · cases b with
      | true =>
        refine ⟨env4, S5, _, _, r4.ext e5, s5, p5, fun y S6 u H6 p6 e6 r6 s6 => ?_, fun _ _ _ _ _ (z : False) => z.elim⟩
        obtain ⟨acc, eS, hz, q6⟩ := lcPut_of p6
        obtain ⟨vs, eH, tl⟩ := s6 p _ eS
        have ex : Ext H3 (upd H6 p (.lst (vs ++ [u]))) := ((e4.trans e5).trans e6).trans (Ext.put eH)
        exact ⟨vs, eH, by rw [tl.length]; exact hz, by omega, _, (e2.trans e3).trans ex, s6.putL eH (tl.append (.cons r6 .nil)), wk.stay _ _ hG2 (e3.trans ex), q6⟩
      | false => exact ⟨by omega, S5, (e2.trans e3).trans (e4.trans e5), s5, wk.stay _ _ hG2 (e3.trans (e4.trans e5)), p5⟩
  · have ed : ds.drop i = [] := List.drop_eq_nil_of_le (by omega)
    rw [ed] at q2
    refine .inl ⟨wk.stop i H2 hG2 (by omega), ?_⟩
    obtain ⟨out, eS, q3⟩ := lcEndN_of q2
    obtain ⟨vs, eH, tl⟩ := s2 p _ eS
    exact hQ _ _ ⟨p, vs, out, S2, rfl, eH, tl, s2, e2, q3⟩
theorem ie_lcN {elt tg iter : Expr} {ifs : List Expr} {scope : Scope} {own : List (Str × Nat)} {pos : Pos} {wi : WI} {g : WG} {t : WB} {w : WE} (hc : X.calm = true) (hN : X.N.Nodup) (hi : II X W tg iter wi) (ok : BlkOk X.N X.env.scope scope own)
    (hg : ∀ (s : Shared) (H : Hp) (C : Addr) (cl : List (Str × Addr)) (fp : List Addr), IG (X.blk s H scope (compEnvC scope cl C X.env) fp) W0 (own.map (fun q : Str × Nat => q.2)) tg g)
    (ht : ∀ (s : Shared) (H : Hp) (C : Addr) (cl : List (Str × Addr)) (fp : List Addr), ITs (X.blk s H scope (compEnvC scope cl C X.env) fp) ifs t)
    (he : ∀ (s : Shared) (H : Hp) (C : Addr) (cl : List (Str × Addr)) (fp : List Addr), IE (X.blk s H scope (compEnvC scope cl C X.env) fp) W0 elt w)
    (hs : ∀ x, foldedSetIterable iter X.env x = pure x) : IE X W (.ListComp elt [⟨tg, iter, ifs, 0⟩] scope pos) (wLcN wi g t w (own.map (fun q : Str × Nat => q.2))) := by
  refine ⟨fun pins s σ H Q I ⟨env, S, P, x, re, rs, hw, hq, hx⟩ => ?_⟩
  refine thn ((pe_lc (g := tG X.K X.mg W0 (own.map (fun q : Str × Nat => q.2)) g) (tt := tT X.K X.mg W0 t) (te := tE X.K X.mg W0 w) hc hN hi ok hg ht he hs).run pins s σ H (fun v H' => ∃ p vs out S2, v = .ref p ∧ H' p = some (.lst vs) ∧ RepL X.K H' vs out ∧ RepS X.K H' S2 ∧ Ext H H' ∧ P (.ref p) S2) I (lc_wishN (fun _ _ z => z) re rs hw hx)) fun u s1 ⟨v, H', I', rv, p, vs, out, S2, ev, hp, r1, s1', e1, q⟩ => ?_
  subst ev
  exact ⟨.ref p, H', I', rv, hq _ _ _ _ q e1 (.ref p) s1'⟩
theorem is_setLcN {i : Nat} {y : Str} {py : Pos} {elt tg iter : Expr} {ifs : List Expr} {scope : Scope} {own : List (Str × Nat)} {pos spos : Pos} {wi : WI} {g : WG} {t : WB} {w : WE} (hc : X.calm = true) (hN : X.N.Nodup) (hy : X.N[i]? = some y) (hyl : X.env.scope.names.lookup y = some .local)
    (hsw : swapsWith (.ListComp elt [⟨tg, iter, ifs, 0⟩] scope pos) (some (.Name y py)) spos.line X.env = pure true) (hi : II X W tg iter wi) (ok : BlkOk X.N X.env.scope scope own)
    (hg : ∀ (s : Shared) (H : Hp) (C : Addr) (cl : List (Str × Addr)) (fp : List Addr), IG (X.blk s H scope (compEnvC scope cl C X.env) fp) W0 (own.map (fun q : Str × Nat => q.2)) tg g)
    (ht : ∀ (s : Shared) (H : Hp) (C : Addr) (cl : List (Str × Addr)) (fp : List Addr), ITs (X.blk s H scope (compEnvC scope cl C X.env) fp) ifs t)
    (he : ∀ (s : Shared) (H : Hp) (C : Addr) (cl : List (Str × Addr)) (fp : List Addr), IE (X.blk s H scope (compEnvC scope cl C X.env) fp) W0 elt w)
    (hs : ∀ x, foldedSetIterable iter X.env x = pure x) : IS X W (.Assign [.Name y py] (.ListComp elt [⟨tg, iter, ifs, 0⟩] scope pos) spos) (sSet (wLcN wi g t w (own.map (fun q : Str × Nat => q.2))) (gVar i)) := by
  refine ⟨fun pins s σ H D I ⟨env, S, P, x, re, rs, hw, hq, hx⟩ => ?_⟩
  refine thn ((ps_setLc (g := tG X.K X.mg W0 (own.map (fun q : Str × Nat => q.2)) g) (tt := tT X.K X.mg W0 t) (te := tE X.K X.mg W0 w) hc hN hy hyl hsw hi ok hg ht he hs).run pins s σ H { nx := fun σ' H' => ∃ v, σ' = σ.set i (some v) ∧ ∃ p vs out S2, v = .ref p ∧ H' p = some (.lst vs) ∧ RepL X.K H' vs out ∧ RepS X.K H' S2 ∧ Ext H H' ∧ gVar i (.ref p) env S2 P.nx (fun _ _ => False), rt := fun _ _ => False } I ?_) fun f s1 hsp => ?_
  · exact lc_wishN (fun v H' q => ⟨v, rfl, q⟩) re rs hw (hx.at re)
  · cases f with
    | next =>
      obtain ⟨σ', H', I', v, e0, p, vs, out, S2, ev, hp, r1, s1', e1, q⟩ := hsp
      subst ev; subst e0
      exact ⟨_, _, I', hq.nx _ _ _ _ q e1 ((re.ext e1).set (.ref p)) s1'⟩
    | brk => obtain ⟨_, _, _, z⟩ := hsp; exact z.elim
    | cont => obtain ⟨_, _, _, z⟩ := hsp; exact z.elim
    | ret u => obtain ⟨_, _, _, _, _, z⟩ := hsp; exact z.elim
end
end PL
namespace PX
open PySem PySem.W Builtin Builtin.ObjectAttr
/-! ### an own error over Exception: def __init__(self, x): super().__init__(x); self.x = x -/
abbrev exB : List Value := [.type "Exception", .type "BaseException", .type "object"]
def inBody (x : Str) (p1 p2 p3 p4 p5 p6 q1 q2 q3 q4 : Pos) : List Stmt :=
  [.Expr (.Call (.Attribute (.Call (.Name "super" p1) [] [] p2) "__init__" p3) [.Name x p4] [] p5) p6, .Assign [.Attribute (.Name "self" q1) x q2] (.Name x q3) q4]
def inArgs (x : Str) (p1 p2 : Pos) : Arguments := { posonlyargs := [], args := [{ arg := "self", annotation := none, pos := p1 }, { arg := x, annotation := none, pos := p2 }], vararg := none, kwonlyargs := [], kw_defaults := [], kwarg := none, defaults := [] }
def inScope (x : Str) : Scope := { kind := .function, names := [(PySem.Str.ofString "self", .local), (x, .local), (PySem.Str.ofString "__class__", .free), (PySem.Str.ofString "super", .globalImplicit)], isGenerator := false, isCoroutine := false, more := [] }
/-- what the written part says of the class at C, named cn, its __init__ at fI, its cell at cc -/
structure ExTxt (P : Program) (K : Frag) (mg : Str → Option Value) (cn x : Str) (C fI : Addr) : Prop where
  gC : mg cn = some (.ref C)
  nS : mg "super" = none
  cls : ∃ nm q N bs bm sn sub ab col dd k0 k1 k2 k3 k5, K.lookup C = some (excClassObj nm q C N bs bm true sn sub ab col dd k0 k1 k2 k3 k5 "Exception.__new__") ∧ excTail exB bm = true ∧ alongIn K "__init__" bm = some (some (.builtin "Exception.__init__"))
  sa : findIn K (.ref C) "__setattr__" = some (some (.builtin "object.__setattr__"))
  ga : findIn K (.ref C) "__getattribute__" = some (some (.builtin "BaseException.__getattribute__"))
  gg : findIn K (.ref C) "__getattr__" = some none
  noN : findIn K (.ref C) x = some none
  tk : takerIn K C x = some none
  iC : findIn K (.ref C) "__init__" = some (some (.ref fI))
  tC : typeIn K (.ref fI) = some (.type "function")
  kC : keepIn K (.ref C) = true
  exC : subIn K (.ref C) (.type "BaseException") = some true
  exE : subIn K (.ref C) (.type "Exception") = some true
  sC : mroIn K C (.ref C) = some true
  tyC : typeIn K (.ref C) = some (.type "type")
  hdC : hasDictIn K C = true
  op : nsIn K cStatics "thirdparty.any" = some none
  fn : ∃ (q : Str) (oc : Value) (od : Option Addr) (doc pm : Value) (an : Option Addr) (cda cc : Addr) (ct : Value) (osl : Array (Option Value)) (p1 p2 a1 a2 a3 a4 a5 a6 b1 b2 b3 b4 : Pos),
    K.lookup fI = some ⟨oc, od, .func (fnX "__init__" q (inArgs x p1 p2) (inBody x a1 a2 a3 a4 a5 a6 b1 b2 b3 b4) (inScope x) [("__class__", cc)] .none .none doc pm an (.ref cda) ct), osl⟩ ∧ (a3.endLine == a5.line) = true ∧ codeIn K (.ref cda) q = true ∧
      (∃ ccl cdd vs ccs file tf, K.lookup cda = some ⟨ccl, cdd, .fields vs, ccs⟩ ∧ vs[2]? = some (.str file tf) ∧ ((P.main.file : Str) == file) = true) ∧ ∃ cl cld csl, K.lookup cc = some ⟨cl, cld, .cell (some (.ref C)), csl⟩
  top : (P.main.scope.names.lookup ("super" : Str)).isSome = false
structure InitEnd (h h' : Heap) (x C dx t1 : Addr) (f : Str) (v : Value) : Prop where
  keep : ∀ b o, b ≠ x → h.get? b = some o → h'.get? b = some o
  obj : h'.get? x = some { cls := .ref C, dict := some dx, data := .fields #[.ref t1, .none, .none, .none, .bool false, .none] }
  dbig : h.objs.size ≤ dx
  dne : dx ≠ x
  ns : h'.Ns1 dx (fun y => if y = f then some v else none)
section
variable {prog : Program} {w : World} {A : Around} {E : Value → Shared → Prop} {R : Result → Shared → Prop} {hp : Heap} {g : Array GenState} {d : Drawn} {t : Nat} {os : OsState}
/-- self.f = v, the object without a dict -/
theorem set_new {K : Frag} {name : Str} {tk : Tok} {v : Value} {x C : Addr} {fv : Array Value} {cd : ClassData} (X : K.In hp) (hx : hp.get? x = some { cls := .ref C, data := .fields fv }) (hcd : clsIn K C = some cd) (hov : excOver K C exB = true) (hh : cd.hasDict = true) (ha : takerIn K C name = some none)
    (hq : ∀ h' tk' dx, (∀ b o, b ≠ x → hp.get? b = some o → h'.get? b = some o) → hp.objs.size ≤ dx → dx ≠ x → h'.get? x = some { cls := .ref C, dict := some dx, data := .fields fv } → h'.Ns1 dx (fun y => if y = name then some v else none) → R (.ok (.ret .none)) ⟨h', g, d, tk', os⟩) :
    codeAny (model prog w) A (.call (.builtin "object.__setattr__") ⟨[.ref x, .str name tk, v], []⟩) R ⟨hp, g, d, t, os⟩ := by
  have hxs : x ≠ hp.objs.size := Nat.ne_of_lt (Heap.lt_size hx)
  refine osa_openX (od := none) F.store_Exception X ⟨hx, rfl, rfl, trivial⟩ hov ha fun b => ?_
  have hcls : Looks (model prog w) hp (classData C) cd := looks_clsIn X hcd
  obtain ⟨nm, bs, mro, ns, qn, hd, sn, sb, ab, col, del⟩ := cd
  dsimp only at hh
  subst hh
  show wpAny _ _ (storeInOwnDict (.ref x) (.ref C) (.str name tk) name v b) _ _ _
  unfold storeInOwnDict ownDictForStores
  repeat (first | with_reducible refine HandSPX.store_in_new ?_ ?_ | with_reducible refine wpAny_loadPart_at hx ?_ | with_reducible refine hcls.at ?_ | wp_step)
  · exact ⟨_, #[], _, (Heap.get?_update_ne _ _ _ _ hxs.symm).trans (Heap.get?_push_at rfl rfl), rfl, fun e he => absurd he (by simp), fun _ => rfl⟩
  · intro h' tk' hn' hs
    have hx₁ : (hp.push { cls := .type "dict", data := .dict #[] }).get? x = some { cls := .ref C, data := .fields fv } := Heap.get?_push_of_some _ hx
    refine hq h' tk' hp.objs.size (fun b o hb ho => ?_) (Nat.le_refl _) hxs.symm ?_ hn'
    · exact (hs.2 b (Nat.ne_of_lt (Heap.lt_size ho))).trans ((Heap.get?_update_ne _ _ _ _ hb).trans (Heap.get?_push_of_some _ ho))
    · exact (hs.2 x hxs).trans (Heap.get?_update_self _ hx₁ rfl)
end
section
variable {prog : Program} {w : World} {A : Around} {R : Result → Shared → Prop} {s : Shared} {K : Frag} {mg mb : Str → Option Value} {cn f : Str} {C fI : Addr}
structure FldOk (f : Str) : Prop where
  bd : ∀ q p1 p2 body scope cl doc pm an cdv ct a b, bindArgs (fnX "__init__" q (inArgs f p1 p2) body scope cl .none .none doc pm an cdv ct) ⟨[a, b], []⟩ = pure [((PySem.Str.ofString "self" : Str), a), (f, b)]
  kS : (inScope f).names.lookup ("super" : Str) = some .globalImplicit
  kC : (inScope f).names.lookup ("__class__" : Str) = some .free
  kI : (inScope f).names.lookup ("self" : Str) = some .local
  kF : (inScope f).names.lookup f = some .local
  mI : ∀ a b : Value, ([((PySem.Str.ofString "self" : Str), a), (f, b)] : List (Str × Value)).reverse.lookup ("self" : Str) = some a
  mF : ∀ a b : Value, ([((PySem.Str.ofString "self" : Str), a), (f, b)] : List (Str × Value)).reverse.lookup f = some b
  db : (f == ("__debug__" : Str)) = false
theorem ex_init (T : ExTxt prog K mg cn f C fI) (O : FldOk f)
    {x t0 : Addr} {v : Value} (X : K.In s.heap) (hlim : s.heap.NoLimit) (hG : s.heap.Ns mainGlobals mg) (hB : s.heap.Ns builtinsNs mb) (hmb : mb "super" = some (.type "super")) (hx : s.heap.get? x = some (HandSPX.excO C t0)) (hnx : K.lookup x = none) (hroom : A.depth < recursionLimit)
    (hq : ∀ h' tk dx t1, InitEnd s.heap h' x C dx t1 f v → R (.ok (.ret .none)) { s with heap := h', toks := tk }) : codeAny (model prog w) A (.call (.ref fI) ⟨[.ref x, v], []⟩) R s := by
  obtain ⟨q, oc, od, doc, pm, an, cda, cc, ct, osl, p1, p2, a1, a2, a3, a4, a5, a6, b1, b2, b3, b4, lk, hl, hcd, ⟨ccl, cdd, vs, ccs, file, tf, hcode, hvs, hfile⟩, cl, cld, csl, hcell⟩ := T.fn
  obtain ⟨nm, qn, N, bs, bm, sn, sub, ab, col, dd, k0, k1, k2, k3, k5, hC, htl, hal⟩ := T.cls
  have hD : clsIn K C = some { name := nm, bases := bs, mro := .ref C :: bm, ns := N, qualname := qn, hasDict := true, slotNames := sn, subclasses := sub, abstract := ab, collection := col, hasDel := false } := by unfold clsIn; rw [hC] <;> rfl
  have hov : excOver K C exB = true := by
    unfold excOver
    rw [hD]
    show (C == C && excTail exB bm) = true
    rw [htl]
    simp
  have hcel : ∀ y ∈ (inScope f).names, y.2 ≠ .cell := by
    intro y hy
    simp only [inScope, List.mem_cons, List.not_mem_nil, or_false] at hy
    rcases hy with rfl | rfl | rfl | rfl <;> (intro z; cases z)
  have hloc : ∀ y ∈ ([((PySem.Str.ofString "self" : Str), Value.ref x), (f, v)] : List (Str × Value)), (inScope f).names.lookup y.1 = some .local := by
    intro y hy
    simp only [List.mem_cons, List.not_mem_nil, or_false] at hy
    rcases hy with rfl | rfl
    · exact O.kI
    · exact O.kF
  refine ks_codeAny_call_defAt (fd := fnX "__init__" q (inArgs f p1 p2) (inBody f a1 a2 a3 a4 a5 a6 b1 b2 b3 b4) (inScope f) [("__class__", cc)] .none .none doc pm an (.ref cda) ct) (binds := [((PySem.Str.ofString "self" : Str), .ref x), (f, v)]) hroom (X _ _ lk) rfl hlim (codeRec_of X hcd) rfl (.of_eq (O.bd _ _ _ _ _ _ _ _ _ _ _ _ _)) hcel hloc (fun h₁ hn k => ?_)
  obtain ⟨hp, g, d, t, os⟩ := s
  have X₁ : K.In h₁ := X.keeps k
  have G₁ := hG.keeps k
  have B₁ := hB.keeps k
  have hx₁ := k _ _ hx
  have hD₁ : ∃ oD, h₁.get? C = some oD ∧ oD.data = .cls { name := nm, bases := bs, mro := .ref C :: bm, ns := N, qualname := qn, hasDict := true, slotNames := sn, subclasses := sub, abstract := ab, collection := col, hasDel := false } := ⟨_, X₁ _ _ hC, rfl⟩
  obtain ⟨oD, hD1, hD2⟩ := hD₁
  have I₁ : InstAt h₁ x (HandSPX.excO C t0) C none := ⟨hx₁, rfl, rfl, trivial⟩
  -- super().__init__(f)
  refine ks_wpAt_execs_cons (ks_wpAt_Expr_any (ks_wpAt_MethodCall (pl := ?pl) ?_ ?he) rfl rfl)
  case he =>
    show (do
      let ov ← attributeBase _ _ _ _
      standAt a3.atName
      methodCall _ _ a3 a5 _ ov _ _ _) = _
    simp only [methodCall, methodCallPos, hl, Bool.or_true, if_true, pure_bind]
    rfl
  refine ks_wpAt_super_base (env := envX q (inScope f) hp.objs.size fI (.ref cda) [("__class__", cc)]) O.kS O.kC (by decide +kernel) rfl (X₁ _ _ lk) rfl rfl rfl (X₁ _ _ hcode) rfl hvs hfile T.top ?_
  refine ks_loadName_global rfl O.kS (Calls.loadGlobal_builtin (env := envX q (inScope f) hp.objs.size fI (.ref cda) [("__class__", cc)]) G₁ T.nS B₁ hmb ⟨rfl, ?_⟩)
  refine wpAny_loadName_free rfl O.kC rfl ⟨_, X₁ _ _ hcell, rfl⟩ ?_
  refine wpAny_loadName_local rfl O.kI hn (O.mI _ _) ?_
  refine ks_wpAny_isType_cls hD1 hD2 ⟨rfl, ?_⟩
  refine ks_wpAny_call_super hD1 hD2 hx₁ rfl (fun c e => by cases e) (looks_mroIn X₁ T.sC) (fun h₂ e₂ k₂ => ?_)
  have X₂ : K.In h₂ := X₁.keeps k₂
  have hx₂ := k₂ _ _ hx₁
  have hxC : x ≠ C := by
    intro z
    subst z
    rw [X₂ _ _ hC] at hx₂
    cases hx₂
  refine ESX.getMethod_super e₂ (looks_opaque X₂ T.op) ((looks_clsIn X₂ hD).andThen .now) (l₀ := .ref C :: bm) (ESX.drop_own C bm) X₂ hal hxC (by decide +kernel) ?_ ?_
  · exact (show InstAt h₂ x (HandSPX.excO C t0) C none from ⟨hx₂, rfl, rfl, trivial⟩).type.andThen (looks_subIn X₂ T.exE)
  have lt₂ : h₁.objs.size < h₂.objs.size := Heap.lt_size e₂
  have k₃ : ∀ b o, h₂.get? b = some o → (h₂.push (ESX.bw x)).get? b = some o := fun b o e => Heap.get?_push_of_some _ e
  have nL : ∀ {h' : Heap}, (∀ b o, h₁.get? b = some o → h'.get? b = some o) → h'.Ns hp.objs.size (fun y => ([((PySem.Str.ofString "self" : Str), Value.ref x), (f, v)] : List (Str × Value)).reverse.lookup y) := fun k' => hn.keeps k'
  have n₃ := nL (fun b o e => k₃ b o (k₂ b o e))
  refine ESX.callWith_bound (x := x) (Calls.spliced_cons (ESX.ldL n₃ (O.mF _ _) (Calls.spliced_nil ⟨Heap.get?_push_size _ rfl, ?_⟩) rfl O.kF O.db)) rfl rfl
  have X₃ : K.In (h₂.push (ESX.bw x)) := X₂.keeps k₃
  refine ESX.call_bw (X₃ _ _ hC) (k₃ _ _ hx₂) (Heap.get?_push_size _ rfl) (by rw [sizeLine_eq]; exact (show 1 ≤ 16777216 by decide)) (fun h₄ t₁ k₄ hx₄ => ?_)
  have kx : ∀ {b : Addr} {o : Obj}, K.lookup b = some o → b ≠ x := fun {b o} e z => by rw [z, hnx] at e; cases e
  have X₄ : K.In h₄ := fun b o e => k₄ b o (kx e) (X₃ b o e)
  have xL : hp.objs.size ≠ x := Nat.ne_of_gt (Heap.lt_size (show hp.get? x = some _ from hx))
  have n₄ : h₄.Ns hp.objs.size (fun y => ([((PySem.Str.ofString "self" : Str), Value.ref x), (f, v)] : List (Str × Value)).reverse.lookup y) := by
    obtain ⟨o, es, ep, ho, r⟩ := n₃
    exact ⟨o, es, ep, k₄ _ _ xL ho, r⟩
  -- self.f = f
  refine ks_wpAt_execs_cons (ks_wpAt_Assign_Attr (wpAt_of_wpAny (ESX.ldL n₄ (O.mF _ _) (ESX.ldL n₄ (O.mI _ _) ?_ rfl O.kI (by decide +kernel)) rfl O.kF O.db)) rfl)
  refine set_plain X₄ (ox := HandSPX.excO C t₁) (od := none) ⟨hx₄, rfl, rfl, trivial⟩ T.sa ?_
  refine set_new X₄ hx₄ hD hov rfl T.tk (fun h₅ tk₅ dx k₅ dn dne hx₅ hn₅ => ?_)
  refine wpAt_of_wpAny (wpAny_execs_nil ?_)
  have old : ∀ b o, b ≠ x → hp.get? b = some o → h₅.get? b = some o := fun b o hb e => k₅ b o hb (k₄ b o hb (k₃ b o (k₂ b o (k b o e))))
  have big : hp.objs.size ≤ dx := by
    have z1 : hp.objs.size < h₁.objs.size := hn.lt
    have q : (h₂.push (ESX.bw x)).get? h₂.objs.size = some (ESX.bw x) := Heap.get?_push_size _ rfl
    have nx : h₂.objs.size ≠ x := Nat.ne_of_gt (Heap.lt_size hx₂)
    have z3 : h₂.objs.size < h₄.objs.size := Heap.lt_size (k₄ _ _ nx q)
    have z4 : h₄.objs.size ≤ dx := dn
    omega
  exact hq h₅ tk₅ dx t₁ ⟨old, hx₅, big, dne, hn₅⟩
end
end PX
namespace PX
open PySem PySem.W Builtin Builtin.ObjectAttr
structure Made (h h' : Heap) (e C d : Addr) (f : Str) (v : Value) : Prop where
  keep : ∀ b o, h.get? b = some o → h'.get? b = some o
  new : h.objs.size ≤ e
  obj : ∃ oe vs, h'.get? e = some oe ∧ oe.cls = .ref C ∧ oe.dict = some d ∧ oe.data = .fields vs ∧ vs[1]? = some .none
  dbig : h.objs.size ≤ d
  dne : d ≠ e
  ns : h'.Ns1 d (fun y => if y = f then some v else none)
section
variable {prog : Program} {w : World} {A : Around} {R : Result → Shared → Prop} {s : Shared} {K : Frag} {mg mb : Str → Option Value} {cn f : Str} {C fI : Addr}
theorem ex_made (T : ExTxt prog K mg cn f C fI) (O : FldOk f) {v : Value} (X : K.In s.heap) (hlim : s.heap.NoLimit) (hG : s.heap.Ns mainGlobals mg) (hB : s.heap.Ns builtinsNs mb) (hmb : mb "super" = some (.type "super")) (hroom : A.depth + 1 < recursionLimit)
    (hq : ∀ h' tk e d, Made s.heap h' e C d f v → R (.ok (.ret (.ref e))) { s with heap := h', toks := tk }) : codeAny (model prog w) A (.call (.ref C) ⟨[v], []⟩) R s := by
  obtain ⟨nm, qn, N, bs, bm, sn, sub, ab, col, dd, k0, k1, k2, k3, k5, hC, htl, hal⟩ := T.cls
  obtain ⟨hp, g, dr, tk, os⟩ := s
  have k : ∀ b o, hp.get? b = some o → ((hp.push (kdv_tup [v])).push (HandSPX.excO C hp.objs.size)).get? b = some o := fun b o e => Heap.get?_push_of_some _ (Heap.get?_push_of_some _ e)
  have hget : ((hp.push (kdv_tup [v])).push (HandSPX.excO C hp.objs.size)).get? (hp.objs.size + 1) = some (HandSPX.excO C hp.objs.size) := by heap_get
  have hnx : K.lookup (hp.objs.size + 1) = none := by
    cases e : K.lookup (hp.objs.size + 1) with
    | none => rfl
    | some o => exact absurd (Nat.lt_of_succ_lt (Heap.lt_size (X _ _ e))) (Nat.lt_irrefl _)
  refine HandSPX.call_own F.excBase_Exception (fun Y => excTail_contains Y bm htl) (X _ _ hC) (looks_findIn X T.iC) (fun self => bind_fn X self T.tC) (by rw [sizeLine_eq]; exact (show 1 ≤ 16777216 by decide)) ?_
  refine ex_init (s := ⟨(hp.push (kdv_tup [v])).push (HandSPX.excO C hp.objs.size), g, dr, tk, os⟩) T O (X.keeps k) (hlim.keeps k) (hG.keeps k) (hB.keeps k) hmb hget hnx (show A.depth + 1 < recursionLimit from hroom) fun h' tk' dx t1 ⟨k', hx, dn, dne, hns⟩ => ?_
  have old : ∀ b o, hp.get? b = some o → h'.get? b = some o := fun b o e => k' b o (Nat.ne_of_lt (Nat.lt_succ_of_lt (Heap.lt_size e))) (k b o e)
  have z : hp.objs.size ≤ dx := by
    have q : ((hp.push (kdv_tup [v])).push (HandSPX.excO C hp.objs.size)).objs.size ≤ dx := dn
    rw [Heap.size_push, Heap.size_push] at q
    omega
  exact ⟨rfl, hq h' tk' (hp.objs.size + 1) dx ⟨old, Nat.le_succ _, ⟨_, _, hx, rfl, rfl, rfl, rfl⟩, z, dne, hns⟩⟩
end
end PX
namespace PL
open PySem PySem.Spec L2
section
variable {X : Cx} {W : WX} {cn f : Str} {C fI : Addr}
theorem relO_one {v : V} {v' : Value} (r : RelV v v') (f g : Str) : RelO (List.lookup g [(f, v)]) (if g = f then some v' else none) := by
  by_cases hg : g = f
  · subst hg
    rw [if_pos rfl, List.lookup_cons, beq_self_eq_true]
    exact r
  · rw [if_neg hg, List.lookup_cons, beq_false_of_ne hg]
    trivial
/-- cn(e) -/
def tMk (C : Addr) (f : Str) (ta : TA) : St → Hp → XK → Prop := fun σ H Q => ta σ H fun vs H1 => ∃ v, vs = [v] ∧ ∀ d, H1 d = none → Q (.ref C) (some d) (upd H1 d (.xd [(f, v)]))
theorem pmk_ex {a : Expr} {ta : TA} {p pos : Pos} (T : PX.ExTxt X.prog X.K X.mg cn f C fI) (O : PX.FldOk f) (hd : X.A.depth + 5 < recursionLimit) (ha : PA X [a] ta) (hg : Gl X cn) (hdb : (cn == ("__debug__" : Str)) = false)
    (he : starEach (a :: []) X.env = (false, eval a X.env) :: starEach [] X.env) : PMk X (.Call (.Name cn p) [a] [] pos) (tMk C f ta) := by
  intro pins s σ H Q I h
  refine wpAny_Call_Name_kw (ld_glob I hg T.gC ?_ hdb)
  refine PySem.W.callWith_K (h₀ := X.base) I.ok.mod.kin T.kC (thn (ha.run pos pins s σ H _ I h) fun us s1 hh => ?_) he rfl
  obtain ⟨vs, H1, I1, r1, v, ev, q1⟩ := hh
  subst ev
  refine ⟨I1.kIn, ?_⟩
  cases r1 with
  | cons rv rn =>
    rename_i v' us'
    cases rn
    show wpAny _ _ (call (.ref C) [v']) _ _ _
    have hlim := I1.nolimit
    have hG := I1.mod.glob.keeps I1.bk
    obtain ⟨mb, hB, hmb⟩ := I1.mod.blt
    have hB' := hB.keeps I1.bk
    obtain ⟨hp, g, dr, tk, os⟩ := s1
    refine wpAny_call (PX.ex_made T O I1.kIn hlim hG hB' ((hmb _ (by decide)).trans (by decide +kernel)) (by omega) fun h' tk' e d M => ?_)
    show MkP X pins σ Q (.ref e) ⟨h', g, dr, tk', os⟩
    obtain ⟨oe, fv, hoe, hc, hd, hdat, h1⟩ := M.obj
    have hns := M.ns
    obtain ⟨G', g1, g2⟩ := restrict h' fun b => decide (b ≠ e)
    have gk : ∀ b, b ≠ e → G'.get? b = h'.get? b := fun b hb => g1 b (decide_eq_true hb)
    have ge : G'.get? e = none := g2 e (by simp)
    have old : ∀ b o, hp.get? b = some o → G'.get? b = some o := fun b o q => (gk b (Nat.ne_of_lt (Nat.lt_of_lt_of_le (Heap.lt_size q) M.new))).trans (M.keep b o q)
    have ob : ObjOk X.prog X.w (upd H1 d (.xd [(f, v)])) G' d (.xd [(f, v)]) := ⟨_, hns.at (fun o q => (gk d M.dne).trans q), fun g => relO_one rv f g⟩
    have J : L2.Inv X pins σ (upd H1 d (.xd [(f, v)])) ⟨G', g, dr, tk', os⟩ := I1.laid (t' := tk') old M.dbig ob
    refine ⟨e, oe, fv, ⟨G', g, dr, tk', os⟩, _, .ref C, some d, rfl, J, fun b o q => ?_, ge, hoe, ⟨hc, hd⟩, hdat, h1, ?_, rfl, I1.bare, raises_own T.exC T.tyC, q1 d (I1.hok.fresh M.dbig)⟩
    · by_cases hb : b = e
      · have q' : G'.get? b = some o := q
        rw [hb, ge] at q'; cases q'
      · exact (gk b hb).symm.trans q
    · rw [upd_ne (Ne.symm M.dne)]
      exact I1.hok.fresh M.new
/-- raise cn(e) -/
def sRaise (cn f : Str) (w : WA) : WS := fun P X env S => w env S (fun ds S' => match ds with
  | [d] => X ⟨cn, [(f, d)]⟩ env S'
  | _ => False) (fun x S' => X x env S')
theorem is_raise {a : Expr} {w : WA} {p pos pos2 : Pos} (T : PX.ExTxt X.prog X.K X.mg cn f C fI) (O : PX.FldOk f) (hd : X.A.depth + 5 < recursionLimit) (hc : X.calm = true) (tk : Takes X W) (ha : IA X W [a] w) (hg : Gl X cn) (hdb : (cn == ("__debug__" : Str)) = false)
    (he : starEach (a :: []) X.env = (false, eval a X.env) :: starEach [] X.env) : IS X W (.Raise (some (.Call (.Name cn p) [a] [] pos)) none pos2) (sRaise cn f w) :=
  (ps_raise hc tk (pmk_ex T O hd ha hg hdb he)).of fun D σ H ⟨env, S, P, x, re, rs, h, hq, hx⟩ => ⟨env, S, _, _, re, rs, h, fun ds S' vs H' p l e1 r1 s1 => by
    match ds, p with
    | [d], p =>
      obtain ⟨v, rfl, r⟩ := rl1 r1
      refine ⟨v, rfl, fun dd nd => hx _ env S' _ _ σ _ p (e1.trans (Ext.new nd)) ((re.ext e1).ext (Ext.new nd)) ⟨?_, dd, [(f, v)], rfl, upd_same, rfl, .cons (r.ext (Ext.new nd)) .nil⟩ (s1.new nd)⟩
      show (match X.mg cn with
        | some v => some v
        | none => bootBuiltins cn) = some (.ref C)
      rw [T.gC], hx.at re⟩
end
end PL
namespace PL
open PySem PySem.Spec L2
/-! ### try: .. except C as e: return .. -/
theorem RepX.ext {K : PySem.W.Frag} {mg : Str → Option Value} {H H' : Hp} {cls : Value} {d : Option Addr} {x : XD} (r : RepX K mg H cls d x) (e : Ext H H') : RepX K mg H' cls d x := by
  obtain ⟨r1, r2⟩ := r
  refine ⟨r1, ?_⟩
  cases hf : x.fs with
  | nil => rw [hf] at r2; exact r2
  | cons p q =>
    rw [hf] at r2
    obtain ⟨dd, fv, a, b, c, t⟩ := r2
    exact ⟨dd, fv, a, e.xd _ _ b, c, t.ext e⟩
/-- what the written part says of the error classes named in T; sub: which is derived from which -/
structure ClsIn (X : Cx) (T : List Str) (sub : Str → Str → Bool) : Prop where
  cls : ∀ n ∈ T, ∃ C, X.mg n = some (.ref C) ∧ ExcC X.K C ∧ PySem.W.typeIn X.K (.ref C) = some (.type "type")
  isa : ∀ n ∈ T, ∀ m ∈ T, ∀ C D, X.mg n = some (.ref C) → X.mg m = some (.ref D) → PySem.W.subIn X.K (.ref C) (.ref D) = some (sub n m) ∧ PySem.W.kitOne X.K (.ref C) (.ref D) = some (sub n m)
def FldIn (X : Cx) (T : List Str) (f : Str) : Prop := ∀ n ∈ T, ∀ C, X.mg n = some (.ref C) → PySem.W.findIn X.K (.ref C) f = some none
theorem ExcC.xfc {K : PySem.W.Frag} {C : Addr} (h : ExcC K C) : XfC K C := ⟨h.hg, h.hk, h.hs, h.hd⟩
/-- .. and what may change stands as it was -/
structure ExtS (K : PySem.W.Frag) (H H' : Hp) : Prop where
  ext : Ext H H'
  sto : ∀ S, RepS K H S → RepS K H' S
theorem ExtS.refl (K : PySem.W.Frag) (H : Hp) : ExtS K H H := ⟨Ext.refl H, fun _ h => h⟩
theorem ExtS.trans {K : PySem.W.Frag} {H H1 H2 : Hp} (a : ExtS K H H1) (b : ExtS K H1 H2) : ExtS K H H2 := ⟨a.ext.trans b.ext, fun S h => b.sto S (a.sto S h)⟩
theorem ExtS.new {K : PySem.W.Frag} {H : Hp} {p : Addr} {o : HO} (h : H p = none) : ExtS K H (upd H p o) := ⟨Ext.new h, fun _ r => r.new h⟩
def dOk (H : Hp) (d : Option Addr) : Prop := ∀ dd, d = some dd → ∃ fs, H dd = some (.xd fs)
section
variable (K : PySem.W.Frag) (mg : Str → Option Value) (T : List Str) (a : Addr) (cls : Value) (d : Option Addr) (i : Option Nat)
abbrev FX := XD → Option D
def tX (f : FX) : TE := fun σ H Q => ∃ x y, RepX K mg H cls d x ∧ x.cls ∈ T ∧ (∀ j : Nat, i = some j → σ[j]? = some (some (.ref a))) ∧ f x = some y ∧ ∀ v H', ExtS K H H' → Rep K H' v y → Q v H'
def tXB (f : XD → Option Bool) : TT := fun σ H Q => ∃ x y, RepX K mg H cls d x ∧ x.cls ∈ T ∧ (∀ j : Nat, i = some j → σ[j]? = some (some (.ref a))) ∧ f x = some y ∧ ∀ H', ExtS K H H' → Q y H'
def tXA (f : XD → Option (List D)) : TA := fun σ H Q => ∃ x ys, RepX K mg H cls d x ∧ x.cls ∈ T ∧ (∀ j : Nat, i = some j → σ[j]? = some (some (.ref a))) ∧ f x = some ys ∧ ∀ vs H', ExtS K H H' → RepL K H' vs ys → Q vs H'
end
/-- an expression in the suite -/
abbrev IX (X : Cx) (T : List Str) (i : Option Nat) (e : Expr) (f : FX) : Prop := ∀ (a : Addr) (oe : Obj) (cls : Value) (d : Option Addr) (pn : List (Addr × Obj)), Zc cls d oe → (∃ vs, oe.data = .fields vs) → PE (X.suite a ((a, oe) :: pn)) e (tX X.K X.mg T a cls d i f)
abbrev IXB (X : Cx) (T : List Str) (i : Option Nat) (e : Expr) (f : XD → Option Bool) : Prop := ∀ (a : Addr) (oe : Obj) (cls : Value) (d : Option Addr) (pn : List (Addr × Obj)), Zc cls d oe → (∃ vs, oe.data = .fields vs) → PT (X.suite a ((a, oe) :: pn)) e (tXB X.K X.mg T a cls d i f)
abbrev IXA (X : Cx) (T : List Str) (i : Option Nat) (es : List Expr) (f : XD → Option (List D)) : Prop := ∀ (a : Addr) (oe : Obj) (cls : Value) (d : Option Addr) (pn : List (Addr × Obj)), Zc cls d oe → (∃ vs, oe.data = .fields vs) → PA (X.suite a ((a, oe) :: pn)) es (tXA X.K X.mg T a cls d i f)
section
variable {X : Cx} {T : List Str} {sub : Str → Str → Bool} {i : Option Nat} {k : Nat} {e c b : Expr} {es : List Expr} {f g : FX} {fb gb : XD → Option Bool} {fa : XD → Option (List D)} {pos p p2 : Pos} {n nm : Str}
def fC (y : D) : FX := fun _ => some y
theorem ix_int {k : Int} {j : Nat} : IX X T i (.Constant (.int k) j pos) (fC (.int k)) := fun a oe cls d pn hz hf => pe_int.of fun σ H Q ⟨x, y, rx, hm, hs, hy, hq⟩ => by cases hy; exact hq _ _ (ExtS.refl _ H) (.int k)
theorem ix_bl {k : Bool} {j : Nat} : IX X T i (.Constant (.bool k) j pos) (fC (.bl k)) := fun a oe cls d pn hz hf => pe_bl.of fun σ H Q ⟨x, y, rx, hm, hs, hy, hq⟩ => by cases hy; exact hq _ _ (ExtS.refl _ H) (.bl k)
theorem ix_non {j : Nat} : IX X T i (.Constant .none j pos) (fC .non) := fun a oe cls d pn hz hf => pe_non.of fun σ H Q ⟨x, y, rx, hm, hs, hy, hq⟩ => by cases hy; exact hq _ _ (ExtS.refl _ H) .non
theorem ix_str {k : Str} {j : Nat} : IX X T i (.Constant (.str k) j pos) (fC (.str k)) := fun a oe cls d pn hz hf => pe_str.of fun σ H Q ⟨x, y, rx, hm, hs, hy, hq⟩ => by cases hy; exact hq _ _ (ExtS.refl _ H) (.str k)
/-- e.fld -/
def fFld (fl : Str) : FX := fun x => x.fs.lookup fl
theorem lookup_rep {K : PySem.W.Frag} {H : Hp} {fl : Str} {y : D} : ∀ {fv : List (Str × V)} {fs : List (Str × D)}, fv.map (·.1) = fs.map (·.1) → RepL K H (fv.map (·.2)) (fs.map (·.2)) → fs.lookup fl = some y → ∃ v, fv.lookup fl = some v ∧ Rep K H v y
  | _, [], _, _, h => by simp at h
  | [], _ :: _, h, _, _ => by simp at h
  | (k, v) :: fv, (k2, y2) :: fs, h1, .cons r t, h => by
    simp only [List.map_cons, List.cons.injEq] at h1
    obtain ⟨rfl, h1⟩ := h1
    rw [List.lookup_cons] at h ⊢
    cases hk : fl == k with
    | true =>
      simp only [hk] at h
      cases h
      exact ⟨v, rfl, r⟩
    | false =>
      simp only [hk] at h
      exact lookup_rep h1 t h
theorem ix_fld {fl : Str} (C : ClsIn X T sub) (F : FldIn X T fl) (hN : X.N[k]? = some nm) (hv : Vis X.env.scope nm) (hd : (nm == ("__debug__" : Str)) = false) (hcd : (nm == ("__classdict__" : Str)) = false) (hb : attributeBase (.Name nm p) fl X.env (eval (.Name nm p) X.env) = eval (.Name nm p) X.env) : IX X T (some k) (.Attribute (.Name nm p) fl pos) (fFld fl) := by
  intro a oe cls d pn hz hf
  refine ⟨fun pins s σ H Q I ⟨x, y, rx, hm, hs, hy, hq⟩ => ?_⟩
  obtain ⟨C0, g0, x0, t0⟩ := C.cls _ hm
  have ecls : cls = .ref C0 := by
    have q := rx.1
    unfold clsV at q
    rw [g0] at q
    exact (Option.some.inj q).symm
  have r2 := rx.2
  cases hfs : x.fs with
  | nil => rw [fFld, hfs] at hy; cases hy
  | cons k0 kr =>
    rw [hfs] at r2
    obtain ⟨dd, fv, e1, e2, e3, e4⟩ := r2
    obtain ⟨v, ev, rv⟩ := lookup_rep e3 e4 (by rw [← hfs]; exact hy)
    exact (pe_xf (ExcC.xfc x0) (F _ hm _ g0) hz hf (pe_var hN hv hd hcd) hb).run pins s σ H Q I ⟨.ref a, hs k rfl, rfl, ecls, dd, fv, v, e1, e2, ev, hq v H (ExtS.refl _ H) rv⟩
/-- isinstance(e, m) -/
def fIs (sub : Str → Str → Bool) (m : Str) : XD → Option Bool := fun x => some (sub x.cls m)
def fBl (f : XD → Option Bool) : FX := fun x => (f x).map D.bl
theorem call_isx {a C : Addr} {oe : Obj} {d : Option Addr} {pn : List (Addr × Obj)} (E : ExcC X.K C) (hz : Zc (.ref C) d oe) (hf : ∃ vs, oe.data = .fields vs) : CallR (X.suite a ((a, oe) :: pn)) (.builtin "isinstance")
    (fun xs H Q => ∃ (D : Addr) (b : Bool), xs = [.ref a, .ref D] ∧ dOk H d ∧ PySem.W.kitOne X.K (.ref C) (.ref D) = some b ∧ Q (.bl b) H) := by
  intro pins s σ H xs us Q I r ⟨D, b, ex, hd, hk, q⟩
  subst ex
  obtain ⟨u, w', rfl, ru, rw'⟩ := vals2 r
  have eu : u = .ref a := ru
  have ew : w' = .ref D := rw'
  subst eu; subst ew
  obtain ⟨ha, _⟩ := I.pin (a, oe) (List.mem_append_left _ List.mem_cons_self)
  obtain ⟨vs, hdat⟩ := hf
  have hcl : (PySem.W.clsIn X.K C).isSome = true := by
    obtain ⟨cd, hc, _⟩ := PySem.W.any_some E.hd
    rw [hc]; rfl
  have J : ∃ od, PySem.W.InstAt s.heap a oe C od := by
    cases d with
    | none => exact ⟨none, ha, hz.1, by unfold PySem.W.notCls; rw [hdat] <;> rfl, by rw [hz.2]; trivial⟩
    | some dd =>
      obtain ⟨fs, hx⟩ := hd dd rfl
      have ok : ObjOk X.prog X.w H s.heap dd (.xd fs) := I.hok dd _ hx
      obtain ⟨mA, hns, _⟩ := ok
      obtain ⟨od, ho, _⟩ := lookIn_ns hns
      exact ⟨some od, ha, hz.1, by unfold PySem.W.notCls; rw [hdat] <;> rfl, by rw [hz.2]; exact ho⟩
  obtain ⟨od, J⟩ := J
  exact PySem.W.kia_one (PySem.W.kitx_exc hcl E.hg E.hk E.hs E.ha E.hn E.ht E.hm) I.kIn J hk (by intro z; cases z) fun tk => ⟨.bl b, H, I.tok _, rfl, q⟩
theorem rx_dict {K : PySem.W.Frag} {mg : Str → Option Value} {H : Hp} {cls : Value} {d : Option Addr} {x : XD} (r : RepX K mg H cls d x) : dOk H d := by
  intro dd hd
  have r2 := r.2
  cases hf : x.fs with
  | nil => rw [hf] at r2; rw [r2] at hd; cases hd
  | cons p q =>
    rw [hf] at r2
    obtain ⟨d2, fv, e1, e2, _⟩ := r2
    rw [hd] at e1
    cases e1
    exact ⟨fv, e2⟩
theorem isx_run {m : Str} {j : Nat} (C : ClsIn X T sub) (hm : m ∈ T) (hg : Gl X m) (hgi : Gl X "isinstance") (hmi : X.mg "isinstance" = none) (hN : X.N[k]? = some nm) (hv : Vis X.env.scope nm) (hd : (nm == ("__debug__" : Str)) = false) (hcd : (nm == ("__classdict__" : Str)) = false) (hdm : (m == ("__debug__" : Str)) = false) (a : Addr) (oe : Obj) (cls : Value) (d : Option Addr) (pn : List (Addr × Obj)) (hz : Zc cls d oe) (hf : ∃ vs, oe.data = .fields vs)
    {pf pc : Pos} (he : starEach [.Name nm p, .Name m p2] X.env = (false, eval (.Name nm p) X.env) :: starEach [.Name m p2] X.env) (he2 : starEach [.Name m p2] X.env = (false, eval (.Name m p2) X.env) :: starEach [] X.env) (hpl : (backTo pc (starEach [.Name m p2] X.env)).any (·.1) = false) :
    PE (X.suite a ((a, oe) :: pn)) (.Call (.Name "isinstance" pf) [.Name nm p, .Name m p2] [] pc) (tX X.K X.mg T a cls d (some k) (fBl (fIs sub m))) := by
  refine ⟨fun pins s σ H Q I ⟨x, y, rx, hx, hs, hy, hq⟩ => ?_⟩
  obtain ⟨C0, g0, x0, t0⟩ := C.cls _ hx
  obtain ⟨D0, gD, xD, tD⟩ := C.cls _ hm
  have ecls : cls = .ref C0 := by
    have q := rx.1
    unfold clsV at q
    rw [g0] at q
    exact (Option.some.inj q).symm
  subst ecls
  have eu : (⟨.ref D0, rfl⟩ : ∃ u : Value, u = .ref D0) = ⟨.ref D0, rfl⟩ := rfl
  refine (pe_callB (call_isx x0 hz hf) hgi hmi (by decide +kernel) (pa_cons (pe_var hN hv hd hcd) (pa_cons (pe_glob (v := .ref D0) hg gD rfl hdm) pa_nil he2) he) (by decide) (by decide) he hpl).run pins s σ H Q I ⟨.ref a, hs k rfl, ?_⟩
  refine ⟨D0, sub x.cls m, rfl, rx_dict rx, (C.isa _ hx _ hm _ _ g0 gD).2, ?_⟩
  cases hy
  exact hq _ H (ExtS.refl _ H) (.bl _)
theorem ix_is {m : Str} {pf pc : Pos} (C : ClsIn X T sub) (hm : m ∈ T) (hg : Gl X m) (hgi : Gl X "isinstance") (hmi : X.mg "isinstance" = none) (hN : X.N[k]? = some nm) (hv : Vis X.env.scope nm) (hd : (nm == ("__debug__" : Str)) = false) (hcd : (nm == ("__classdict__" : Str)) = false) (hdm : (m == ("__debug__" : Str)) = false)
    (he : starEach [.Name nm p, .Name m p2] X.env = (false, eval (.Name nm p) X.env) :: starEach [.Name m p2] X.env) (he2 : starEach [.Name m p2] X.env = (false, eval (.Name m p2) X.env) :: starEach [] X.env) (hpl : (backTo pc (starEach [.Name m p2] X.env)).any (·.1) = false) :
    IX X T (some k) (.Call (.Name "isinstance" pf) [.Name nm p, .Name m p2] [] pc) (fBl (fIs sub m)) := fun a oe cls d pn hz hf => isx_run C (j := 0) hm hg hgi hmi hN hv hd hcd hdm a oe cls d pn hz hf he he2 hpl
/-- a bool as a test -/
theorem ixb_of (h : IX X T i e (fBl fb)) (he : ∀ (env : PySem.Env) whole, isTrue e env whole = (do let v ← whole; standAt e.pos; holding [v] (truthy v))) : IXB X T i e fb := fun a oe cls d pn hz hf =>
  (pt_val (h a oe cls d pn hz hf) (fun w => he _ w)).of fun σ H Q ⟨x, y, rx, hm, hs, hy, hq⟩ => ⟨x, .bl y, rx, hm, hs, by unfold fBl; rw [hy]; rfl, fun v H' e1 r => by cases r; exact ⟨y, rfl, hq H' e1⟩⟩
def fNotB (f : XD → Option Bool) : XD → Option Bool := fun x => (f x).map (!·)
def fAndB (f g : XD → Option Bool) : XD → Option Bool := fun x => match f x with
  | some true => g x
  | some false => some false
  | none => none
def fOrB (f g : XD → Option Bool) : XD → Option Bool := fun x => match f x with
  | some true => some true
  | some false => g x
  | none => none
theorem ixb_not (h : IXB X T i e fb) : IXB X T i (.UnaryOp .Not e pos) (fNotB fb) := fun a oe cls d pn hz hf =>
  (pt_not (h a oe cls d pn hz hf)).of fun σ H Q ⟨x, y, rx, hm, hs, hy, hq⟩ => by
    cases hy' : fb x with
    | none => unfold fNotB at hy; rw [hy'] at hy; cases hy
    | some k =>
      unfold fNotB at hy
      rw [hy'] at hy
      cases hy
      exact ⟨x, k, rx, hm, hs, hy', fun H' e1 => hq H' e1⟩
theorem ixb_and (h : IXB X T i e fb) (h2 : IXB X T i c gb) : IXB X T i (.BoolOp .And [e, c] pos) (fAndB fb gb) := fun a oe cls d pn hz hf =>
  (PW.pt (pw_and (h a oe cls d pn hz hf) (pw_and1 (h2 a oe cls d pn hz hf)))).of fun σ H Q ⟨x, y, rx, hm, hs, hy, hq⟩ => by
    unfold fAndB at hy
    cases hy' : fb x with
    | none => rw [hy'] at hy; cases hy
    | some k =>
      rw [hy'] at hy
      cases k with
      | true => exact ⟨x, true, rx, hm, hs, hy', fun H' e1 => ⟨x, y, rx.ext e1.ext, hm, hs, hy, fun H2 e2 => hq H2 (e1.trans e2)⟩⟩
      | false => cases hy; exact ⟨x, false, rx, hm, hs, hy', fun H' e1 => hq H' e1⟩
theorem ixb_or (h : IXB X T i e fb) (h2 : IXB X T i c gb) : IXB X T i (.BoolOp .Or [e, c] pos) (fOrB fb gb) := fun a oe cls d pn hz hf =>
  (PW.pt (pw_or (h a oe cls d pn hz hf) (pw_or1 (h2 a oe cls d pn hz hf)))).of fun σ H Q ⟨x, y, rx, hm, hs, hy, hq⟩ => by
    unfold fOrB at hy
    cases hy' : fb x with
    | none => rw [hy'] at hy; cases hy
    | some k =>
      rw [hy'] at hy
      cases k with
      | false => exact ⟨x, false, rx, hm, hs, hy', fun H' e1 => ⟨x, y, rx.ext e1.ext, hm, hs, hy, fun H2 e2 => hq H2 (e1.trans e2)⟩⟩
      | true => cases hy; exact ⟨x, true, rx, hm, hs, hy', fun H' e1 => hq H' e1⟩
def fIf (t : XD → Option Bool) (f g : FX) : FX := fun x => match t x with
  | some true => f x
  | some false => g x
  | none => none
theorem ix_if (h : IXB X T i c fb) (h1 : IX X T i e f) (h2 : IX X T i b g) : IX X T i (.IfExp c e b pos) (fIf fb f g) := fun a oe cls d pn hz hf =>
  (pe_ifExp (h a oe cls d pn hz hf) (h1 a oe cls d pn hz hf) (h2 a oe cls d pn hz hf)).of fun σ H Q ⟨x, y, rx, hm, hs, hy, hq⟩ => by
    unfold fIf at hy
    cases hy' : fb x with
    | none => rw [hy'] at hy; cases hy
    | some k =>
      rw [hy'] at hy
      cases k with
      | true => exact ⟨x, true, rx, hm, hs, hy', fun H' e1 => ⟨x, y, rx.ext e1.ext, hm, hs, hy, fun v H2 e2 r => hq v H2 (e1.trans e2) r⟩⟩
      | false => exact ⟨x, false, rx, hm, hs, hy', fun H' e1 => ⟨x, y, rx.ext e1.ext, hm, hs, hy, fun v H2 e2 r => hq v H2 (e1.trans e2) r⟩⟩
/-- ==, - and + of what is told -/
def fEq (f g : FX) : FX := fun x => match f x, g x with
  | some (.int a), some (.int b) => some (.bl (decide (a = b)))
  | some (.str a), some (.str b) => some (.bl (decide (a = b)))
  | _, _ => none
def fNeg (f : FX) : FX := fun x => match f x with
  | some (.int a) => some (.int (-a))
  | _ => none
theorem ix_eq (h : IX X T i e f) (h2 : IX X T i c g) (hb : behindInMarks .Eq c = false) : IX X T i (.Compare e [.Eq] [c] pos) (fEq f g) := fun a oe cls d pn hz hf =>
  (pe_cmpR op_eq (h a oe cls d pn hz hf) (h2 a oe cls d pn hz hf) hb).of fun σ H Q ⟨x, y, rx, hm, hs, hy, hq⟩ => by
    unfold fEq at hy
    split at hy
    · rename_i u w e1 e2
      cases hy
      refine ⟨x, _, rx, hm, hs, e1, fun v H1 x1 r1 => ⟨x, _, rx.ext x1.ext, hm, hs, e2, fun v2 H2 x2 r2 => ?_⟩⟩
      cases r1; cases r2
      refine ⟨rfl, ?_⟩
      have e3 : decide (V.int u = V.int w) = decide (u = w) := by simp
      rw [e3]
      exact hq _ _ (x1.trans x2) (.bl _)
    · rename_i u w e1 e2
      cases hy
      refine ⟨x, _, rx, hm, hs, e1, fun v H1 x1 r1 => ⟨x, _, rx.ext x1.ext, hm, hs, e2, fun v2 H2 x2 r2 => ?_⟩⟩
      cases r1; cases r2
      refine ⟨rfl, ?_⟩
      have e3 : decide (V.str u = V.str w) = decide (u = w) := by simp
      rw [e3]
      exact hq _ _ (x1.trans x2) (.bl _)
    · cases hy
theorem ix_neg (h : IX X T i e f) : IX X T i (.UnaryOp .USub e pos) (fNeg f) := fun a oe cls d pn hz hf =>
  (pe_un un_neg (h a oe cls d pn hz hf)).of fun σ H Q ⟨x, y, rx, hm, hs, hy, hq⟩ => by
    unfold fNeg at hy
    split at hy
    · rename_i u e1
      cases hy
      refine ⟨x, _, rx, hm, hs, e1, fun v H1 x1 r1 => ?_⟩
      cases r1
      exact ⟨u, rfl, hq _ _ x1 (.int _)⟩
    · cases hy
def faNil : XD → Option (List D) := fun _ => some []
def faCons (f : FX) (g : XD → Option (List D)) : XD → Option (List D) := fun x => match f x, g x with
  | some y, some ys => some (y :: ys)
  | _, _ => none
theorem ixa_nil : IXA X T i [] faNil := fun a oe cls d pn hz hf => pa_nil.of fun σ H Q ⟨x, y, rx, hm, hs, hy, hq⟩ => by cases hy; exact hq _ _ (ExtS.refl _ H) .nil
theorem ixa_cons (h : IX X T i e f) (h2 : IXA X T i es fa) (hs : ∀ env : PySem.Env, starEach (e :: es) env = (false, eval e env) :: starEach es env) : IXA X T i (e :: es) (faCons f fa) := fun a oe cls d pn hz hf =>
  (pa_cons (h a oe cls d pn hz hf) (h2 a oe cls d pn hz hf) (hs _)).of fun σ H Q ⟨x, ys, rx, hm, hsl, hy, hq⟩ => by
    unfold faCons at hy
    cases e1 : f x with
    | none => rw [e1] at hy; cases hy
    | some y =>
      cases e2 : fa x with
      | none => rw [e1, e2] at hy; cases hy
      | some zs =>
        rw [e1, e2] at hy
        cases hy
        exact ⟨x, y, rx, hm, hsl, e1, fun v H1 x1 r1 => ⟨x, zs, rx.ext x1.ext, hm, hsl, e2, fun vs H2 x2 r2 => hq _ H2 (x1.trans x2) (.cons (r1.ext x2.ext) r2)⟩⟩
def fTup (g : XD → Option (List D)) : FX := fun x => match g x with
  | some ys => if ys.length ≤ 100 then some (.tup ys) else none
  | none => none
def fLst (g : XD → Option (List D)) : FX := fun x => match g x with
  | some ys => if ys.length ≤ 100 then some (.lst ys) else none
  | none => none
theorem le100 {n : Nat} (h : n ≤ 100) : n ≤ sizeLine := by rw [sizeLine_eq]; omega
theorem ix_tup {k : Nat} (h : IXA X T i es fa) : IX X T i (.Tuple es k pos) (fTup fa) := fun a oe cls d pn hz hf =>
  (pe_tup (h a oe cls d pn hz hf)).of fun σ H Q ⟨x, y, rx, hm, hsl, hy, hq⟩ => by
    unfold fTup at hy
    cases e2 : fa x with
    | none => rw [e2] at hy; cases hy
    | some ys =>
      simp only [e2] at hy
      split at hy
      · rename_i hl
        cases hy
        exact ⟨x, ys, rx, hm, hsl, e2, fun vs H1 x1 r1 => ⟨by rw [r1.length]; exact le100 hl, fun q nq => hq _ _ (x1.trans (ExtS.new nq)) (.tup (.of upd_same) (r1.ext (Ext.new nq)))⟩⟩
      · cases hy
theorem ix_lst (h : IXA X T i es fa) : IX X T i (.List es pos) (fLst fa) := fun a oe cls d pn hz hf => by
  refine ⟨fun pins s σ H Q I ⟨x, y, rx, hm, hsl, hy, hq⟩ => ?_⟩
  unfold fLst at hy
  cases e2 : fa x with
  | none => rw [e2] at hy; cases hy
  | some ys =>
    simp only [e2] at hy
    split at hy
    · rename_i hl
      cases hy
      refine thn ((pe_lst (h a oe cls d pn hz hf)).run pins s σ H (fun v H' => ∃ q vs H1, v = .ref q ∧ H1 q = none ∧ H' = upd H1 q (.lst vs) ∧ ExtS X.K H H1 ∧ RepL X.K H1 vs ys) I ⟨x, ys, rx, hm, hsl, e2, fun vs H1 x1 r1 => ⟨by rw [r1.length]; exact le100 hl, fun q nq => ⟨q, vs, H1, rfl, nq, rfl, x1, r1⟩⟩⟩) fun u s1 ⟨v, H', I', rv, q, vs, H1, ev, nq, eH, x1, r1⟩ => ?_
      subst ev; subst eH
      obtain ⟨ob, J⟩ := freeze I' upd_same
      rw [upd_upd] at J
      exact ⟨.ref q, _, J, rv, hq _ _ (x1.trans (ExtS.new nq)) (.lst (.inl ⟨ob, upd_same⟩) (r1.ext (Ext.new nq)))⟩
    · cases hy
/-- the whole: body in its own context, then the clause -/
def sTry (T : List Str) (sub : Str → Str → Bool) (m : Str) (i : Option Nat) (body : WS) (f : FX) : WS := fun P X env S => body P (fun x env' S' => x.cls ∈ T ∧ (∀ j, i = some j → j < env'.length) ∧ if sub x.cls m = true then (match f x with
  | some y => P.rt y S'
  | none => False) else X x env' S') env S
theorem exm_of {m n : Str} (C : ClsIn X T sub) (hn : n ∈ T) (hm : m ∈ T) {C0 D0 : Addr} (g0 : X.mg n = some (.ref C0)) (gD : X.mg m = some (.ref D0)) : PySem.W.exmOne X.K (.ref C0) (.ref D0) = some (sub n m) := by
  obtain ⟨D1, g1, xD, tD⟩ := C.cls _ hm
  rw [gD] at g1
  cases g1
  exact PySem.W.exm_ref xD.hs xD.hd tD (C.isa _ hn _ hm _ _ g0 gD).1
theorem try_wish {m : Str} {D0 : Addr} {σ : St} {H H0 : Hp} {P : EndD} {D : Ends} {Xo : XS} {Wo : WX} {x : XD} {env : Env} {S : Sto} {cls : Value} {d : Option Addr} (C : ClsIn X T sub) (hm : m ∈ T) (gD : X.mg m = some (.ref D0)) (rx : RepX X.K X.mg H cls d x) (hx : x.cls ∈ T) : ∃ C0, cls = .ref C0 ∧ PySem.W.exmOne X.K cls (.ref D0) = some (sub x.cls m) := by
  obtain ⟨C0, g0, x0, t0⟩ := C.cls _ hx
  have ecls : cls = .ref C0 := by
    have q := rx.1
    unfold clsV at q
    rw [g0] at q
    exact (Option.some.inj q).symm
  subst ecls
  exact ⟨C0, rfl, exm_of C hx hm g0 gD⟩
variable {W : WX} {body : List Stmt} {m : Str} {u : WS} {np : Pos}
theorem is_try_as (C : ClsIn X T sub) (hm : m ∈ T) (hs : X.stack = X.env :: X.outer) (hf : X.env.frame = some X.env.locals) (hN : X.N.Nodup) (hi : X.N[k]? = some nm) (hln : X.env.kindOf nm = some .local) (hg : Gl X m) (hdb : (m == ("__debug__" : Str)) = false) (tk : Takes X W)
    (hb : ∀ (W' : WX) (pn : List (Addr × Obj)) (xe : Value → Shared → Prop), Takes (X.tr pn xe) W' → PassesOwn (model X.prog X.w) X.A X.env xe → ISs (X.tr pn xe) W' body u) (he : IX X T (some k) e f) :
    IS X W (.Try body [.ExceptHandler (some (.Name m np)) (some nm) [.Return (some e) p] p2] [] [] pos) (sTry T sub m (some k) u f) := by
  obtain ⟨D0, gD, xD, tD⟩ := C.cls _ hm
  refine (ps_try_as (x := m) (c := .ref D0) (tb := fun W' => tS X.K X.mg W' u) (ts := fun a cls d => tRet (tX X.K X.mg T a cls d (some k) f)) hs hf hN hi hln ⟨hg, hdb, .inl gD⟩ tk hb (fun a oe cls d pn hz hfl => pss_one (ps_ret (he a oe cls d pn hz hfl)))).of fun D σ H ⟨env, S, P, x, re, rs, h, hq, hx⟩ => ?_
  refine ⟨env, S, P, _, re, rs, h, hq, fun y env' S' cls dd σ' H' hy e1 r1 rx s1 => ?_⟩
  obtain ⟨hT, hil0, hy⟩ := hy
  obtain ⟨C0, rfl, hex⟩ := try_wish (σ := σ) (H0 := H) (P := P) (D := D) (Xo := x) (Wo := W) (env := env) (S := S) C hm gD rx hT
  refine ⟨sub y.cls m, hex, fun hb a na => ?_, fun hb => ?_⟩
  · rw [if_pos hb] at hy
    cases ef : f y with
    | none => rw [ef] at hy; exact hy.elim
    | some z =>
      rw [ef] at hy
      have hil : k < σ'.length := by
        rw [r1.len]
        exact hil0 k rfl
      exact ⟨y, z, rx, hT, fun j hj => by cases hj; rw [List.getElem?_set_self hil], ef, fun v H2 e2 r2 => hq.rt z S' v H2 hy (e1.trans e2.ext) r2 (e2.sto S' s1)⟩
  · rw [if_neg (by rw [hb]; decide)] at hy
    exact hx y env' S' (.ref C0) dd σ' H' hy e1 r1 rx s1
theorem is_try (C : ClsIn X T sub) (hm : m ∈ T) (hs : X.stack = X.env :: X.outer) (hf : X.env.frame = some X.env.locals) (hg : Gl X m) (hdb : (m == ("__debug__" : Str)) = false) (tk : Takes X W)
    (hb : ∀ (W' : WX) (pn : List (Addr × Obj)) (xe : Value → Shared → Prop), Takes (X.tr pn xe) W' → PassesOwn (model X.prog X.w) X.A X.env xe → ISs (X.tr pn xe) W' body u) (he : IX X T none e f) :
    IS X W (.Try body [.ExceptHandler (some (.Name m np)) none [.Return (some e) p] p2] [] [] pos) (sTry T sub m none u f) := by
  obtain ⟨D0, gD, xD, tD⟩ := C.cls _ hm
  refine (ps_try_only (x := m) (c := .ref D0) (tb := fun W' => tS X.K X.mg W' u) (ts := fun a cls d => tRet (tX X.K X.mg T a cls d none f)) hs hf ⟨hg, hdb, .inl gD⟩ tk hb (fun a oe cls d pn hz hfl => pss_one (ps_ret (he a oe cls d pn hz hfl)))).of fun D σ H ⟨env, S, P, x, re, rs, h, hq, hx⟩ => ?_
  refine ⟨env, S, P, _, re, rs, h, hq, fun y env' S' cls dd σ' H' hy e1 r1 rx s1 => ?_⟩
  obtain ⟨hT, _, hy⟩ := hy
  obtain ⟨C0, rfl, hex⟩ := try_wish (σ := σ) (H0 := H) (P := P) (D := D) (Xo := x) (Wo := W) (env := env) (S := S) C hm gD rx hT
  refine ⟨sub y.cls m, hex, fun hb a na => ?_, fun hb => ?_⟩
  · rw [if_pos hb] at hy
    cases ef : f y with
    | none => rw [ef] at hy; exact hy.elim
    | some z =>
      rw [ef] at hy
      exact ⟨y, z, rx, hT, (fun j hj => by cases hj), ef, fun v H2 e2 r2 => hq.rt z S' v H2 hy (e1.trans e2.ext) r2 (e2.sto S' s1)⟩
  · rw [if_neg (by rw [hb]; decide)] at hy
    exact hx y env' S' (.ref C0) dd σ' H' hy e1 r1 rx s1
end
end PL
namespace PL
open PySem PySem.Spec L2
/-! ### chained comparisons -/
def wChain (o o' : O2) (wa wb wc : WE) : WE := fun env S P X => wa env S (fun x S1 => wb env S1 (fun y S2 => o x y S2 (fun z S3 => match z with
  | .bl k => if k = true then wc env S3 (fun w S4 => o' y w S4 P) X else P (.bl false) S3
  | _ => False)) X) X
section
variable {X : Cx} {W : WX} {a b c e : Expr} {wa wb wc : WE} {pos : Pos} {o o' : O2} {op op' : CmpOp}
abbrev rO (K : PySem.W.Frag) (o : O2) : R2 := fun x y H Q => ∃ dx dy S P, Rep K H x dx ∧ Rep K H y dy ∧ RepS K H S ∧ o dx dy S P ∧ okE K H P Q
theorem chain_of (σ : St) (H : Hp) (Q : VK) (h : tE X.K X.mg W (wChain o o' wa wb wc) σ H Q) : tChain (rO X.K o) (rO X.K o') (tE X.K X.mg W wa) (tE X.K X.mg W wb) (tE X.K X.mg W wc) σ H Q := by
  obtain ⟨env, S, P, PX, re, rs, h, hq, hx⟩ := h
  refine ⟨env, S, _, PX, re, rs, h, fun d1 S1 v1 H1 p1 e1 r1 s1 => ⟨env, S1, _, PX, re.ext e1, s1, p1, fun d2 S2 v2 H2 p2 e2 r2 s2 => ⟨d1, d2, S2, _, r1.ext e2, r2, s2, p2, fun d3 S3 v3 H3 p3 e3 r3 s3 => ?_⟩, hx.ext e1⟩, hx⟩
  cases r3 with
  | bl k =>
    refine ⟨k, rfl, ?_⟩
    have p3' : if k = true then wc env S3 (fun w S4 => o' d2 w S4 P) PX else P (.bl false) S3 := p3
    by_cases hk : k = true
    · rw [if_pos hk] at p3' ⊢
      exact ⟨env, S3, _, PX, re.ext (e1.trans (e2.trans e3)), s3, p3', fun d4 S4 v4 H4 p4 e4 r4 s4 => ⟨d2, d4, S4, P, r2.ext (e3.trans e4), r4, s4, p4, hq.ext (e1.trans (e2.trans (e3.trans e4)))⟩, hx.ext (e1.trans (e2.trans e3))⟩
    · rw [if_neg hk] at p3' ⊢
      exact hq _ S3 _ H3 p3' (e1.trans (e2.trans e3)) (.bl _) s3
  | _ => exact (show False from p3).elim
theorem last_two : lastMarks [op, op'] [b, c] = behindInMarks op' c := rfl
theorem ie_chain (ho : D2 X (compareOp op) o) (ho' : D2 X (compareOp op') o') (ha : IE X W a wa) (hb : IE X W b wb) (hc : IE X W c wc) (hm : behindInMarks op' c = false) : IE X W (.Compare a [op, op'] [b, c] pos) (wChain o o' wa wb wc) :=
  (pe_chain ho.cmp ho'.cmp ha hb hc (last_two.trans hm)).of fun σ H Q h => chain_of σ H Q h
theorem it_chain (ho : D2 X (compareOp op) o) (ho' : D2 X (compareOp op') o') (ha : IE X W a wa) (hb : IE X W b wb) (hc : IE X W c wc) (hm : behindInMarks op' c = false) : IT X W (.Compare a [op, op'] [b, c] pos) (wBl (wChain o o' wa wb wc)) := by
  refine (pt_chain ho.cmp ho'.cmp ha hb hc (last_two.trans hm)).of fun σ H Q ⟨env, S, P, PX, re, rs, h, hq, hx⟩ => ?_
  refine chain_of (o := o) (o' := o') (wa := wa) (wb := wb) (wc := wc) σ H _ ⟨env, S, _, PX, re, rs, h, fun d S' v H' p e1 r s => ?_, hx⟩
  obtain ⟨k, rfl, q⟩ := bl_of p
  cases r
  exact ⟨k, rfl, hq k S' H' q e1 s⟩
/-! ### the values of a list of ints -/
/-- the items of a list -/
def lstOf (S : Sto) (d : D) : Option (List D) := match d with
  | .lst ds => some ds
  | .ref a => match S a with
    | some (.lst ds) => some ds
    | _ => none
  | _ => none
theorem lst_rep {K : PySem.W.Frag} {H : Hp} {S : Sto} {v : V} {d : D} {ds : List D} (r : Rep K H v d) (rs : RepS K H S) (h : lstOf S d = some ds) : ∃ p vs, v = .ref p ∧ SqL K H p vs ∧ RepL K H vs ds := by
  cases r with
  | lst h' r' => cases h; exact ⟨_, _, rfl, h'.sql, r'⟩
  | ref a =>
    unfold lstOf at h
    cases e : S a with
    | none => simp [e] at h
    | some o =>
      cases o with
      | oth x => simp [e] at h
      | lst es =>
        simp [e] at h
        subst h
        obtain ⟨vs, q, t⟩ := rs a _ e
        exact ⟨_, _, rfl, .of q, t⟩
  | _ => cases h
/-- a pair of whole numbers -/
def prD (c : Int × Int) : D := .tup [.int c.1, .int c.2]
theorem toPL_pr : ∀ cs : List (Int × Int), toPL (cs.map prD) = cs.map PySem.W.Datum.toD
  | [] => rfl
  | c :: cs => by
    have e : toPL ((c :: cs).map prD) = toP (prD c) :: toPL (cs.map prD) := by simp only [List.map_cons, toPL]
    rw [e, toPL_pr cs, List.map_cons]
    congr 1
theorem nr_pr : ∀ cs : List (Int × Int), norefL (cs.map prD) = true
  | [] => rfl
  | c :: cs => by simp [norefL, noref, prD, nr_pr cs]
def oMin : ON := fun xs S P => match xs with
  | [.int i, .int j] => P (.int (min i j)) S
  | [.int i, .int j, .int k] => P (.int (min (min i j) k)) S
  | [d] => (∃ ns : List Int, lstOf S d = some (ns.map D.int) ∧ 0 < ns.length ∧ ∀ m, m ∈ ns → (∀ y, y ∈ ns → m ≤ y) → P (.int m) S) ∨
    ∃ (c : Int × Int) (cs : List (Int × Int)), lstOf S d = some ((c :: cs).map prD) ∧ P (prD (PySem.W.minOf c cs)) S
  | _ => False
def oMax : ON := fun xs S P => match xs with
  | [.int i, .int j] => P (.int (max i j)) S
  | [.int i, .int j, .int k] => P (.int (max (max i j) k)) S
  | [d] => ∃ ns : List Int, lstOf S d = some (ns.map D.int) ∧ 0 < ns.length ∧ ∀ m, m ∈ ns → (∀ y, y ∈ ns → y ≤ m) → P (.int m) S
  | _ => False
def oSum : ON := fun xs S P => match xs with
  | [d] => ∃ ns : List Int, lstOf S d = some (ns.map D.int) ∧ P (.int ns.sum) S
  | _ => False
theorem rl3 {K : PySem.W.Frag} {H : Hp} {vs : List V} {d e f : D} (r : RepL K H vs [d, e, f]) : ∃ v u w, vs = [v, u, w] ∧ Rep K H v d ∧ Rep K H u e ∧ Rep K H w f := by
  cases r with
  | cons r t =>
    obtain ⟨u, w, rfl, q, q2⟩ := rl2 t
    exact ⟨_, _, _, rfl, r, q, q2⟩
theorem n_sum (hc : X.calm = true) : DN X (fun us => call (.builtin "sum") us) oSum := by
  intro pins s σ H S xs xvs us P I rv r rs h Q hq
  match xs, h with
  | [d], ⟨ns, e, p⟩ =>
    obtain ⟨v, rfl, r1⟩ := rl1 r
    obtain ⟨a, vs, rfl, hs, rl⟩ := lst_rep r1 rs e
    obtain rfl := rl.ints
    exact cr_sum hc pins s σ H _ us Q I rv ⟨a, ns, rfl, hs, hq.here p (.int _) rs⟩
theorem mn {i j : Int} : (if j < i then j else i) = min i j := by
  rw [Int.min_def]
  split <;> split <;> omega
theorem mx {i j : Int} : (if j > i then j else i) = max i j := by
  rw [Int.max_def]
  split <;> split <;> omega
theorem nu_min2 {i j : Int} : nuMin2 (.int i) (.int j) = some (.int (min i j)) := by
  show some (if (decide (j < i)) = true then V.int j else V.int i) = _
  rw [← mn]
  by_cases h : j < i
  · rw [if_pos (decide_eq_true h), if_pos h]
  · rw [if_neg (by simpa using h), if_neg h]
theorem nu_max2 {i j : Int} : nuMax2 (.int i) (.int j) = some (.int (max i j)) := by
  show some (if (decide (i < j)) = true then V.int j else V.int i) = _
  rw [← mx]
  by_cases h : i < j
  · rw [if_pos (decide_eq_true h), if_pos h]
  · rw [if_neg (by simpa using h), if_neg (by omega)]
theorem n_min_pr (hc : X.calm = true) (hu : X.A.units + 65 < cLine) {pins : List (Addr × Obj)} {s : Shared} {σ : St} {H : Hp} {S : Sto} {xv : V} {d : D} {us : List Value} {c : Int × Int} {cs : List (Int × Int)} (I : Inv X pins σ H s) (rv : Vals [xv] us) (r : Rep X.K H xv d) (rs : RepS X.K H S)
    (e : lstOf S d = some ((c :: cs).map prD)) {Q : VK} (q : ∀ u, Rep X.K H u (prD (PySem.W.minOf c cs)) → Q u H) : wpAny (model X.prog X.w) X.A (call (.builtin "min") us) (EP X pins σ Q) X.xe s := by
  obtain ⟨a, vs, rfl, hs, rl⟩ := lst_rep r rs e
  obtain ⟨its, rt, hl, _⟩ := I.list hs
  rw [Vals.ref1 rv]
  obtain ⟨as, hr⟩ := Dp.readsAll I _ vs its (dpL_of rl (nr_pr _)) rt
  rw [toPL_pr] at hr
  have HA : PySem.W.HoldAll s.heap its.toArray.toList (c :: cs) := ⟨as, by rw [List.toList_toArray]; exact hr⟩
  refine PySem.W.min_list_datum (I.ok.hd hc) hl.isList HA (by
    show X.A.units + 1 + PySem.W.Datum.depth (Int × Int) < cLine
    have : PySem.W.Datum.depth (Int × Int) = 1 := rfl
    omega) fun i v h' tk hi hh hk => ?_
  rw [List.getElem?_toArray] at hi
  obtain ⟨x, hx, hv⟩ := HA.at (by rw [List.toList_toArray]; exact hi)
  obtain ⟨bs, hv⟩ := PySem.W.Holds.keeps hk hv
  obtain ⟨bs', hh⟩ := hh
  have ex : PySem.W.Datum.toD x = PySem.W.Datum.toD (PySem.W.minOf c cs) := PySem.SeqAt.plain_unique _ _ v _ _ (PySem.W.Datum.plain x) hv hh
  have ex2 : x = PySem.W.minOf c cs := by
    have e1 := PySem.W.Datum.eqv x (PySem.W.minOf c cs)
    have e2 := PySem.W.Datum.eqv (PySem.W.minOf c cs) (PySem.W.minOf c cs)
    rw [ex, e2] at e1
    exact of_decide_eq_true (e1.symm.trans (decide_eq_true rfl))
  subst ex2
  have hp : ((c :: cs).map prD)[i]? = some (prD (PySem.W.minOf c cs)) := by rw [List.getElem?_map, hx]; rfl
  obtain ⟨u, eu, ru⟩ := rl.get hp
  obtain ⟨v', ev, rl'⟩ := Vals.get rt eu
  rw [hi] at ev
  cases ev
  exact ⟨u, H, I.kept hk, rl', q u ru⟩
theorem n_min (hc : X.calm = true) (hu : X.A.units + 65 < cLine) : DN X (fun us => call (.builtin "min") us) oMin := by
  intro pins s σ H S xs xvs us P I rv r rs h Q hq
  unfold oMin at h
  split at h
  · rename_i i j
    obtain ⟨v, u, rfl, r1, r2⟩ := rl2 r
    cases r1; cases r2
    exact call_min2 hc pins s σ H _ us Q I rv ⟨i, j, rfl, hq.here (by rw [mn]; exact h) (.int _) rs⟩
  · rename_i i j k
    obtain ⟨v, u, w, rfl, r1, r2, r3⟩ := rl3 r
    cases r1; cases r2; cases r3
    exact call_min3Nu hc pins s σ H _ us Q I rv ⟨.int i, .int j, .int k, _, rfl, (by show (nuMin2 _ _).bind _ = _; rw [nu_min2]; exact nu_min2), hq.here h (.int _) rs⟩
  · rcases h with ⟨ns, e, hn, p⟩ | ⟨c, cs, e, p⟩
    · obtain ⟨v, rfl, r1⟩ := rl1 r
      obtain ⟨a, vs, rfl, hs, rl⟩ := lst_rep r1 rs e
      obtain rfl := rl.ints
      exact cr_min hc pins s σ H _ us Q I rv ⟨a, ns, rfl, hs, hn, fun m h1 h2 => hq.here (p m h1 h2) (.int _) rs⟩
    · obtain ⟨v, rfl, r1⟩ := rl1 r
      exact n_min_pr hc hu I rv r1 rs e fun u ru => hq.here p ru rs
  · exact h.elim
theorem n_max (hc : X.calm = true) : DN X (fun us => call (.builtin "max") us) oMax := by
  intro pins s σ H S xs xvs us P I rv r rs h Q hq
  unfold oMax at h
  split at h
  · rename_i i j
    obtain ⟨v, u, rfl, r1, r2⟩ := rl2 r
    cases r1; cases r2
    exact call_max2 hc pins s σ H _ us Q I rv ⟨i, j, rfl, hq.here (by rw [mx]; exact h) (.int _) rs⟩
  · rename_i i j k
    obtain ⟨v, u, w, rfl, r1, r2, r3⟩ := rl3 r
    cases r1; cases r2; cases r3
    exact call_max3Nu hc pins s σ H _ us Q I rv ⟨.int i, .int j, .int k, _, rfl, (by show (nuMax2 _ _).bind _ = _; rw [nu_max2]; exact nu_max2), hq.here h (.int _) rs⟩
  · obtain ⟨ns, e, hn, p⟩ := h
    obtain ⟨v, rfl, r1⟩ := rl1 r
    obtain ⟨a, vs, rfl, hs, rl⟩ := lst_rep r1 rs e
    obtain rfl := rl.ints
    exact cr_max hc pins s σ H _ us Q I rv ⟨a, ns, rfl, hs, hn, fun m h1 h2 => hq.here (p m h1 h2) (.int _) rs⟩
  · exact h.elim
/-! ### str of an int, list of a list -/
def oStr : ON := fun xs S P => match xs with
  | [.int i] => i.natAbs.log2 < 1920 ∧ P (.str (toString i)) S
  | _ => False
theorem n_str : DN X (fun us => call (.type "str") us) oStr := by
  intro pins s σ H S xs xvs us P I rv r rs h Q hq
  unfold oStr at h
  split at h
  · rename_i i
    obtain ⟨v, rfl, r1⟩ := rl1 r
    cases r1
    exact call_str_int pins s σ H _ us Q I rv ⟨i, rfl, h.1, hq.here h.2 (.str _) rs⟩
  · exact h.elim
/-- a copy that may change -/
def oListN : ON := fun xs S P => match xs with
  | [d] => match seqOf S d with
    | some ds => ∀ p, S p = none → P (.ref p) (sput S p (.lst ds))
    | none => False
  | _ => False
/-- a copy that stays -/
def oList : ON := fun xs S P => match xs with
  | [d] => match seqOf S d with
    | some ds => P (.lst ds) S
    | none => False
  | _ => False
theorem n_listN : DN X (fun us => call (.type "list") us) oListN := by
  intro pins s σ H S xs xvs us P I rv r rs h Q hq
  unfold oListN at h
  split at h
  · split at h
    · rename_i d ds e
      obtain ⟨v, rfl, r1⟩ := rl1 r
      obtain ⟨p, vs, rfl, hl, rl⟩ := seq_rep r1 rs e
      refine call_list_of pins s σ H _ us Q I rv ⟨p, vs, rfl, hl, fun q hq2 => ?_⟩
      exact hq _ _ _ _ (h q (rs.free hq2)) (Ext.new hq2) (.ref q) (rs.newL hq2 rl)
    · exact h.elim
  · exact h.elim
theorem n_list : DN X (fun us => call (.type "list") us) oList := by
  intro pins s σ H S xs xvs us P I rv r rs h
  unfold oList at h
  split at h
  · split at h
    · rename_i d ds e
      obtain ⟨v, rfl, r1⟩ := rl1 r
      obtain ⟨p, vs, rfl, hl, rl⟩ := seq_rep r1 rs e
      exact new_lst (S := S) (P := P) (fun Q' hq' => call_list_of pins s σ H _ us Q' I rv ⟨p, vs, rfl, hl, fun q hq2 => hq' q hq2⟩) rl rs h
    · exact fun _ _ => h.elim
  · exact fun _ _ => h.elim
def oListM (m : Bool) : ON := if m = true then oListN else oList
/-! ### in, not in -/
/-- the items of a list or a tuple -/
def rowOf (S : Sto) (d : D) : Option (List D) := match d with
  | .tup ds => some ds
  | d => lstOf S d
def oIn : O2 := fun x y S P => ∃ ds, rowOf S y = some ds ∧ okD (res S x) = true ∧ okD (res S y) = true ∧ P (.bl ((toPL ds).any fun z => PyData.eqv z (toP (res S x)))) S
def oNotIn : O2 := fun x y S P => ∃ ds, rowOf S y = some ds ∧ okD (res S x) = true ∧ okD (res S y) = true ∧ P (.bl (!(toPL ds).any fun z => PyData.eqv z (toP (res S x)))) S
theorem lst_res {S : Sto} {y : D} {ds : List D} (h : lstOf S y = some ds) : res S y = .lst ds := by
  unfold lstOf at h
  split at h
  · cases h; rfl
  · rename_i a
    unfold res
    split at h
    · rename_i e
      cases h
      simp only [e]
    · cases h
  · cases h
def rInP (K : PySem.W.Frag) (b : Bool) : R2 := fun x y H Q => ∃ d ds, Dp K H x d ∧ Dp K H y (.tuple ds) ∧ SeqAt.shaped d = true ∧ SeqAt.shaped (.tuple ds) = true ∧ Q (.bl (b ^^ ds.any fun z => PyData.eqv z d)) H
theorem op_inP (hu : X.A.units + 65 < cLine) : OpR X (compareOp .In) (rInP X.K false) := by
  intro pins s σ H x y v u Q I rx ry ⟨d, ds, hd, he, sd, se, q⟩
  obtain ⟨as, r1⟩ := Dp.reads I d x v hd rx; obtain ⟨bs, r2⟩ := Dp.reads I (.tuple ds) y u he ry
  refine SeqAt.in_tuple_reads r2 r1 (SeqAt.canLay_of_shaped se) (SeqAt.canLay_of_shaped sd) (PyProof.Rows.room_in_shaped sd hu) ⟨.bl _, H, I, rfl, ?_⟩
  simpa using q
theorem op_ninP (hu : X.A.units + 65 < cLine) : OpR X (compareOp .NotIn) (rInP X.K true) := by
  intro pins s σ H x y v u Q I rx ry ⟨d, ds, hd, he, sd, se, q⟩
  obtain ⟨as, r1⟩ := Dp.reads I d x v hd rx; obtain ⟨bs, r2⟩ := Dp.reads I (.tuple ds) y u he ry
  refine SeqAt.notIn_tuple_reads r2 r1 (SeqAt.canLay_of_shaped se) (SeqAt.canLay_of_shaped sd) (PyProof.Rows.room_in_shaped sd hu) ⟨.bl _, H, I, rfl, ?_⟩
  simpa using q
theorem row_cases {S : Sto} {y : D} {ds : List D} (h : rowOf S y = some ds) : y = .tup ds ∨ (lstOf S y = some ds ∧ res S y = .lst ds) := by
  cases y with
  | tup es => cases h; exact .inl rfl
  | lst es => exact .inr ⟨h, lst_res h⟩
  | ref a => exact .inr ⟨h, lst_res h⟩
  | non => exact .inr ⟨h, lst_res h⟩
  | bl _ => exact .inr ⟨h, lst_res h⟩
  | int _ => exact .inr ⟨h, lst_res h⟩
  | str _ => exact .inr ⟨h, lst_res h⟩
  | obj _ _ _ => exact .inr ⟨h, lst_res h⟩
theorem d_in (hu : X.A.units + 65 < cLine) : D2 X (compareOp .In) oIn := by
  intro pins s σ H S x y xv yv v u P I rx ry r1 r2 rs ⟨ds, e, h1, h2, p⟩ Q hq
  obtain ⟨a1, a2⟩ := dp_res r1 rs h1
  obtain ⟨b1, b2⟩ := dp_res r2 rs h2
  rcases row_cases e with rfl | ⟨_, ey⟩
  · exact op_inP hu pins s σ H _ _ v u Q I rx ry ⟨_, _, a1, b1, a2, b2, hq.here (by simpa using p) (.bl _) rs⟩
  · rw [ey] at b1 b2
    exact op_inD hu pins s σ H _ _ v u Q I rx ry ⟨_, _, a1, b1, a2, b2, hq.here p (.bl _) rs⟩
theorem d_notIn (hu : X.A.units + 65 < cLine) : D2 X (compareOp .NotIn) oNotIn := by
  intro pins s σ H S x y xv yv v u P I rx ry r1 r2 rs ⟨ds, e, h1, h2, p⟩ Q hq
  obtain ⟨a1, a2⟩ := dp_res r1 rs h1
  obtain ⟨b1, b2⟩ := dp_res r2 rs h2
  rcases row_cases e with rfl | ⟨_, ey⟩
  · exact op_ninP hu pins s σ H _ _ v u Q I rx ry ⟨_, _, a1, b1, a2, b2, hq.here (by simpa using p) (.bl _) rs⟩
  · rw [ey] at b1 b2
    exact op_notInD hu pins s σ H _ _ v u Q I rx ry ⟨_, _, a1, b1, a2, b2, hq.here p (.bl _) rs⟩
/-! ### isinstance of a built-in type -/
def tyD : D → String
  | .non => "NoneType"
  | .bl _ => "bool"
  | .int _ => "int"
  | .str _ => "str"
  | .tup _ => "tuple"
  | .lst _ => "list"
  | .ref _ => "list"
  | .obj _ _ _ => "NoneType"
inductive Bt where
  | int | bool | str | tuple | list
def Bt.nm : Bt → String
  | .int => "int" | .bool => "bool" | .str => "str" | .tuple => "tuple" | .list => "list"
def isTy (t : Bt) (d : D) : Bool := match t, d with
  | .int, .int _ => true
  | .int, .bl _ => true
  | .bool, .bl _ => true
  | .str, .str _ => true
  | .tuple, .tup _ => true
  | .list, .lst _ => true
  | .list, .ref _ => true
  | _, _ => false
theorem kit_isTy {K : PySem.W.Frag} (t : Bt) (d : D) : PySem.W.kitOne K (.type (tyD d)) (.type t.nm) = some (isTy t d) := by
  refine kit_ty ?_
  have hn : kitB "NoneType" t.nm = some false := by cases t <;> decide +kernel
  cases d with
  | obj cn ks ds => rw [show isTy t (.obj cn ks ds) = false by cases t <;> rfl]; exact hn
  | _ => cases t <;> first | rfl | decide +kernel
def okT (S : Sto) : D → Prop
  | .ref a => ∃ ds, S a = some (.lst ds)
  | .obj _ _ _ => False
  | _ => True
theorem ty_rep {K : PySem.W.Frag} {H : Hp} {S : Sto} {v : V} {d : D} (r : Rep K H v d) (rs : RepS K H S) (h : okT S d) : TyX K H v (.type (tyD d)) := by
  cases r with
  | non => exact .base .non
  | bl b => exact .base (.bl b)
  | int i => exact .base (.int i)
  | str x => exact .base (.str x)
  | obj _ _ _ _ => exact h.elim
  | ref a =>
    obtain ⟨es, e⟩ := h
    obtain ⟨vs, q, t⟩ := rs a _ e
    exact .base (.lst q)
  | tup h1 _ =>
    rcases h1 with (h1 | ⟨o, h1⟩) | ⟨o, its, n, h1, h2, _⟩
    · exact .base (.tup h1)
    · exact .fTuple h1
    · exact .kTuple h1 h2
  | lst h1 _ =>
    rcases h1 with ⟨o, h1⟩ | ⟨o, its, n, h1, h2, _⟩
    · exact .base (.frz h1)
    · exact .kList h1 h2
def wIsT (t : Bt) (w : WE) : WE := fun env S P X => w env S (fun d S1 => okT S1 d ∧ P (.bl (isTy t d)) S1) X
theorem ie_isT {t : Bt} {x : Str} {p p2 : Pos} (hg : Gl X "isinstance") (hm : X.mg "isinstance" = none) (hgT : Gl X x) (hmT : X.mg x = none) (hv : bootBuiltins x = some (.type t.nm)) (hn : x ≠ "__name__") (hd : (x == ("__debug__" : Str)) = false)
    (he : IE X W e wa) (hs : starEach [e, .Name x p2] X.env = (false, eval e X.env) :: starEach [.Name x p2] X.env) : IE X W (.Call (.Name "isinstance" p) [e, .Name x p2] [] pos) (wIsT t wa) := by
  have ha : PA X [e, .Name x p2] (tCons (tE X.K X.mg W wa) (tCons (tC (.ty t.nm)) tNil)) := pa_cons he (pa_cons (pe_bltn hgT hmT hv rfl hn hd) pa_nil) hs
  refine (pe_callB call_isi hg hm (by first | exact PyProof.Rows.Boot.«isinstance» | decide +kernel) ha (by decide) (by decide) hs rfl).of fun σ H Q ⟨env, S, P, PX, re, rs, h, hq, hx⟩ => ?_
  refine ⟨env, S, _, PX, re, rs, h, fun d S1 v H1 p e1 r s => ?_, hx⟩
  exact ⟨_, _, _, _, _, rfl, .ty _, ty_rep r s p.1, kit_isTy t d, hq _ S1 _ H1 p.2 e1 (.bl _) s⟩
end
end PL
namespace PL
open PySem PySem.Spec PyProof.Rows L2
/-! ### zip of two rows, each a list or a tuple -/
inductive Kd where
  | l | t
def ZI : Kd → Heap → Addr → Addr → Nat → Prop
  | .l, h, i, a, k => h.IsListIter i a k
  | .t, h, i, a, k => h.IsTupleIter i a k
def ZQ : Kd → Heap → Addr → Array Value → Prop
  | .l, h, a, xs => h.IsList a xs
  | .t, h, a, xs => h.IsTuple a xs
theorem ZI.but {k : Kd} {h g : Heap} {a b c : Addr} {n : Nat} (x : ZI k h a c n) (e : Heap.ExtBut b h g) (ne : a ≠ b) : ZI k g a c n := by
  cases k with
  | l => exact Heap.IsListIter.extBut x e ne
  | t => exact Heap.IsTupleIter.extBut x e ne
theorem ZQ.but {k : Kd} {h g : Heap} {a b : Addr} {xs : Array Value} (x : ZQ k h a xs) (e : Heap.ExtBut b h g) (ne : a ≠ b) : ZQ k g a xs := by
  cases k with
  | l => exact Heap.IsList.extBut x e ne
  | t => exact Heap.IsTuple.extBut x e ne
theorem ZI.at {k : Kd} {h g : Heap} {a c : Addr} {n : Nat} (x : ZI k h a c n) (e : ∀ o, h.get? a = some o → g.get? a = some o) : ZI k g a c n := by
  cases k with
  | l => exact Heap.IsListIter.at x e
  | t => exact Heap.IsTupleIter.at x e
theorem ZI.obj {k : Kd} {h : Heap} {a c : Addr} {n : Nat} (x : ZI k h a c n) : ∃ o fs, h.get? a = some o ∧ o.data = .fields fs := by
  cases k with
  | l => obtain ⟨o, e, _, d⟩ := x; exact ⟨o, _, e, d⟩
  | t => obtain ⟨o, e, _, d⟩ := x; exact ⟨o, _, e, d⟩
theorem ZQ.lt {k : Kd} {h : Heap} {a : Addr} {xs : Array Value} (x : ZQ k h a xs) : a < h.objs.size := by
  cases k with
  | l => obtain ⟨o, e, _⟩ := x; exact Heap.lt_size e
  | t => obtain ⟨o, e, _⟩ := x; exact Heap.lt_size e
section
variable {prog : Program} {w : World} {A : Around} {E : Value → Shared → Prop} {s : Shared} {z TI TO i1 i2 l1 l2 : Addr} {m1 m2 : Nat} {xs ys : Array Value} {x y a b : Value} {k k1 k2 : Kd}
theorem ZI.next {it c : Addr} {n : Nat} {Q : Value → Shared → Prop} (p : ZI k s.heap it c n) (q : ZQ k s.heap c xs) (e : xs[n]? = some x)
    (hQ : ∀ g, ZI k g it c (n + 1) → Heap.SameBut it s.heap g → Q x { s with heap := g }) : wpAny (model prog w) A (Builtin.SmallTypes.nextOf (.ref it)) Q E s := by
  cases k with
  | l => exact wpAny_nextOf_list_item p q e hQ
  | t => exact RZ.nextOf_tuple_item p q e hQ
theorem ZI.stop {it c : Addr} {n : Nat} {Q : Value → Shared → Prop} (hh : A.handled = none) (p : ZI k s.heap it c n) (q : ZQ k s.heap c xs) (e : xs[n]? = none)
    (hE : ∀ g u, Heap.ExtBut it s.heap g → (∃ o, g.get? u = some o ∧ o.cls = .type "StopIteration") → E (.ref u) { s with heap := g }) : wpAny (model prog w) A (Builtin.SmallTypes.nextOf (.ref it)) Q E s := by
  cases k with
  | l => exact wpAny_nextOf_list_end hh p q e hE
  | t => exact RZ.nextOf_tuple_end hh p q e hE
theorem zx_item {Q : Value → Shared → Prop} (D : ZipApart z TI TO i1 i2 l1 l2) (gz : IsZip s.heap z TI TO .none) (gI : IsPair s.heap TI (.ref i1) (.ref i2)) (gO : IsPair s.heap TO a b)
    (p1 : ZI k1 s.heap i1 l1 m1) (p2 : ZI k2 s.heap i2 l2 m2) (q1 : ZQ k1 s.heap l1 xs) (q2 : ZQ k2 s.heap l2 ys) (ex : xs[m1]? = some x) (ey : ys[m2]? = some y)
    (hQ : ∀ g, IsZip g z TI TO (rawInt s.heap.objs.size) → IsPair g TO x y → ZI k1 g i1 l1 (m1 + 1) → ZI k2 g i2 l2 (m2 + 1) → IsPair g s.heap.objs.size x y →
      (∀ c o, c ≠ z → c ≠ TO → c ≠ i1 → c ≠ i2 → s.heap.get? c = some o → g.get? c = some o) → Q (.ref s.heap.objs.size) { s with heap := g }) :
    wpAny (model prog w) A (Builtin.«zip.__next__» ⟨[.ref z], []⟩) (fun fin s' => ∃ v, fin = .done (.ret v) ∧ Q v s') E s := by
  show wpAny _ _ (field (.ref z) 2 >>= _) _ _ _; refine wpAny_bind (wpAny_field gz rfl (x := .bool false) rfl ?_)
  show wpAny _ _ (field (.ref z) 3 >>= _) _ _ _; refine wpAny_bind (wpAny_field gz rfl (x := .ref TI) rfl (wpAny_bind (wpAny_seqItems gI rfl ?_)))
  show wpAny _ _ (Builtin.SmallTypes.ownedTupleIsFree (.ref z) >>= _) _ _ _; refine wpAny_bind ?_; unfold Builtin.SmallTypes.ownedTupleIsFree
  refine wpAny_bind (wpAny_field gz rfl (x := .none) rfl (wpAny_pure ?_)); simp only [if_true]
  refine wpAny_bind (wpAny_rule (wpAny_bind (wpAny_field gz rfl (x := .ref TO) rfl (wpAny_bind (wpAny_setField_rec gz (by simp) fun g1 gz1 b1 => ?_)))))
  replace gz1 : IsZip g1 z TI TO .ellipsis := gz1
  refine wpAny_bind ?_; simp only [List.zipIdx_cons, List.zipIdx_nil, List.forIn_cons, List.forIn_nil]
  refine wpAny_bind (wpAny_bind (wpAny_onRaise ?_)); show wpAny _ _ (Builtin.SmallTypes.nextOf (.ref i1) >>= _) _ _ _
  refine wpAny_bind ((p1.but b1.extBut D.i1z).next (q1.but b1.extBut D.l1z) ex fun g2 r1 b2 => wpAny_pure ?_)
  have gO2 : IsPair g2 TO a b := b2.extBut _ _ D.TOi1 (b1.extBut _ _ D.TOz gO)
  refine wpAny_bind (wpAny_seqItems gO2 rfl (wpAny_bind (wpAny_updateSeq_pair gO2 fun g3 gO3 b3 => ?_)))
  replace gO3 : IsPair g3 TO x b := gO3
  refine wpAny_bind (wpAny_letGo (wpAny_pure (wpAny_bind (wpAny_bind (wpAny_onRaise ?_))))); show wpAny _ _ (Builtin.SmallTypes.nextOf (.ref i2) >>= _) _ _ _
  refine wpAny_bind ((((p2.but b1.extBut D.i2z).but b2.extBut D.i12.symm).but b3.extBut D.TOi2.symm).next (((q2.but b1.extBut D.l2z).but b2.extBut D.l2i1).but b3.extBut D.l2TO) ey fun g4 r2 b4 => wpAny_pure ?_)
  have gO4 : IsPair g4 TO x b := b4.extBut _ _ D.TOi2 gO3
  refine wpAny_bind (wpAny_seqItems gO4 rfl (wpAny_bind (wpAny_updateSeq_pair gO4 fun g5 gO5 b5 => ?_)))
  replace gO5 : IsPair g5 TO x y := gO5
  refine wpAny_bind (wpAny_letGo (wpAny_pure (wpAny_pure (wpAny_bind (wpAny_seqItems gO5 rfl (wpAny_bind (wpAny_newTuple ?_)))))))
  have sz5 : g5.objs.size = s.heap.objs.size := by rw [b5.1, b4.1, b3.1, b2.1, b1.1]
  have gz5 : IsZip g5 z TI TO .ellipsis := b5.extBut _ _ D.TOz.symm (b4.extBut _ _ D.i2z.symm (b3.extBut _ _ D.TOz.symm (b2.extBut _ _ D.i1z.symm gz1)))
  have old5 : ∀ c o, c ≠ z → c ≠ TO → c ≠ i1 → c ≠ i2 → s.heap.get? c = some o → g5.get? c = some o := fun c o n1 n2 n3 n4 e =>
    b5.extBut _ _ n2 (b4.extBut _ _ n4 (b3.extBut _ _ n2 (b2.extBut _ _ n3 (b1.extBut _ _ n1 e))))
  have r15 : ZI k1 g5 i1 l1 (m1 + 1) := ((r1.but b3.extBut D.TOi1.symm).but b4.extBut D.i12).but b5.extBut D.TOi1.symm
  have r25 : ZI k2 g5 i2 l2 (m2 + 1) := r2.but b5.extBut D.TOi2.symm
  have ltz : z < g5.objs.size := Heap.lt_size gz5
  show wpAny _ _ (Builtin.SmallTypes.ownedTupleHandOut (.ref z) (.ref g5.objs.size) >>= _) _ _ _; refine wpAny_bind ?_; unfold Builtin.SmallTypes.ownedTupleHandOut
  have gz6 : IsZip (g5.push { cls := .type "tuple", data := .seq #[x, y] }) z TI TO .ellipsis := Heap.get?_push_of_some _ gz5
  refine wpAny_bind (wpAny_setField_rec gz6 (by simp) fun g7 gz7 b7 => ?_)
  replace gz7 : IsZip g7 z TI TO (rawInt g5.objs.size) := gz7
  refine wpAny_setField_rec gz7 (by simp) fun g8 gz8 b8 => ?_
  replace gz8 : IsZip g8 z TI TO (rawInt g5.objs.size) := gz8
  have up : ∀ c o, c ≠ z → g5.get? c = some o → g8.get? c = some o := fun c o n1 e => b8.extBut _ _ n1 (b7.extBut _ _ n1 (Heap.get?_push_of_some _ e))
  have gT8 : IsPair g8 g5.objs.size x y := b8.extBut _ _ (Nat.ne_of_gt ltz) (b7.extBut _ _ (Nat.ne_of_gt ltz) (Heap.get?_push_size _ rfl))
  rw [sz5] at gz8 gT8
  refine wpAny_pure ⟨_, rfl, ?_⟩; show Q (.ref g5.objs.size) _
  rw [sz5]; exact hQ g8 gz8 (up _ _ D.TOz gO5) (r15.at fun o e => up _ o D.i1z e) (r25.at fun o e => up _ o D.i2z e) gT8 fun c o n1 n2 n3 n4 e => up c o n1 (old5 c o n1 n2 n3 n4 e)
theorem zx_end {Q : Fin → Shared → Prop} (hh : A.handled = none) (D : ZipApart z TI TO i1 i2 l1 l2) (gz : IsZip s.heap z TI TO .none) (gI : IsPair s.heap TI (.ref i1) (.ref i2)) (gO : IsPair s.heap TO a b)
    (p1 : ZI k1 s.heap i1 l1 m1) (p2 : ZI k2 s.heap i2 l2 m2) (q1 : ZQ k1 s.heap l1 xs) (q2 : ZQ k2 s.heap l2 ys) (en : xs[m1]? = none ∨ ys[m2]? = none)
    (hE : ∀ g u, (∀ c o, c ≠ z → c ≠ TO → c ≠ i1 → c ≠ i2 → s.heap.get? c = some o → g.get? c = some o) → (∃ o, g.get? u = some o ∧ o.cls = .type "StopIteration") → E (.ref u) { s with heap := g }) :
    wpAny (model prog w) A (Builtin.«zip.__next__» ⟨[.ref z], []⟩) Q E s := by
  show wpAny _ _ (field (.ref z) 2 >>= _) _ _ _; refine wpAny_bind (wpAny_field gz rfl (x := .bool false) rfl ?_)
  show wpAny _ _ (field (.ref z) 3 >>= _) _ _ _; refine wpAny_bind (wpAny_field gz rfl (x := .ref TI) rfl (wpAny_bind (wpAny_seqItems gI rfl ?_)))
  show wpAny _ _ (Builtin.SmallTypes.ownedTupleIsFree (.ref z) >>= _) _ _ _; refine wpAny_bind ?_; unfold Builtin.SmallTypes.ownedTupleIsFree
  refine wpAny_bind (wpAny_field gz rfl (x := .none) rfl (wpAny_pure ?_)); simp only [if_true]
  refine wpAny_bind (wpAny_rule (wpAny_bind (wpAny_field gz rfl (x := .ref TO) rfl (wpAny_bind (wpAny_setField_rec gz (by simp) fun g1 gz1 b1 => ?_)))))
  replace gz1 : IsZip g1 z TI TO .ellipsis := gz1
  refine wpAny_bind ?_; simp only [List.zipIdx_cons, List.zipIdx_nil, List.forIn_cons, List.forIn_nil]
  refine wpAny_bind (wpAny_bind (wpAny_onRaise ?_)); show wpAny _ _ (Builtin.SmallTypes.nextOf (.ref i1) >>= _) _ _ _
  cases ex : xs[m1]? with
  | none =>
    refine wpAny_bind ((p1.but b1.extBut D.i1z).stop hh (q1.but b1.extBut D.l1z) ex fun g2 u b2 ⟨oe, ou, oc⟩ => ?_)
    have gz2 : IsZip g2 z TI TO .ellipsis := b2 _ _ D.i1z.symm gz1
    have uz : u ≠ z := fun q => by subst q; rw [gz2] at ou; cases ou; simp at oc
    exact wpAny_setField_rec gz2 (by simp) fun g3 _ b3 => hE g3 u (fun c o n1 _ n3 _ q => b3.extBut _ _ n1 (b2 _ _ n3 (b1.extBut _ _ n1 q))) ⟨oe, b3.extBut _ _ uz ou, oc⟩
  | some x =>
    have ey : ys[m2]? = none := by rcases en with q | q; · rw [ex] at q; cases q
                                   · exact q
    refine wpAny_bind ((p1.but b1.extBut D.i1z).next (q1.but b1.extBut D.l1z) ex fun g2 r1 b2 => wpAny_pure ?_)
    have gO2 : IsPair g2 TO a b := b2.extBut _ _ D.TOi1 (b1.extBut _ _ D.TOz gO)
    refine wpAny_bind (wpAny_seqItems gO2 rfl (wpAny_bind (wpAny_updateSeq_pair gO2 fun g3 gO3 b3 => ?_)))
    refine wpAny_bind (wpAny_letGo (wpAny_pure (wpAny_bind (wpAny_bind (wpAny_onRaise ?_))))); show wpAny _ _ (Builtin.SmallTypes.nextOf (.ref i2) >>= _) _ _ _
    refine wpAny_bind ((((p2.but b1.extBut D.i2z).but b2.extBut D.i12.symm).but b3.extBut D.TOi2.symm).stop hh (((q2.but b1.extBut D.l2z).but b2.extBut D.l2i1).but b3.extBut D.l2TO) ey fun g4 u b4 ⟨oe, ou, oc⟩ => ?_)
    have gz4 : IsZip g4 z TI TO .ellipsis := b4 _ _ D.i2z.symm (b3.extBut _ _ D.TOz.symm (b2.extBut _ _ D.i1z.symm gz1))
    have uz : u ≠ z := fun q => by subst q; rw [gz4] at ou; cases ou; simp at oc
    exact wpAny_setField_rec gz4 (by simp) fun g5 _ b5 => hE g5 u (fun c o n1 n2 n3 n4 q => b5.extBut _ _ n1 (b4 _ _ n4 (b3.extBut _ _ n2 (b2.extBut _ _ n3 (b1.extBut _ _ n1 q))))) ⟨oe, b5.extBut _ _ uz ou, oc⟩
theorem zx_next {Q : Option Value → Shared → Prop} (D : ZipApart z TI TO i1 i2 l1 l2) (gz : IsZip s.heap z TI TO .none) (gI : IsPair s.heap TI (.ref i1) (.ref i2)) (gO : IsPair s.heap TO a b)
    (p1 : ZI k1 s.heap i1 l1 m1) (p2 : ZI k2 s.heap i2 l2 m2) (q1 : ZQ k1 s.heap l1 xs) (q2 : ZQ k2 s.heap l2 ys) (ex : xs[m1]? = some x) (ey : ys[m2]? = some y)
    (hQ : ∀ g, IsZip g z TI TO (rawInt s.heap.objs.size) → IsPair g TO x y → ZI k1 g i1 l1 (m1 + 1) → ZI k2 g i2 l2 (m2 + 1) → IsPair g s.heap.objs.size x y →
      (∀ c o, c ≠ z → c ≠ TO → c ≠ i1 → c ≠ i2 → s.heap.get? c = some o → g.get? c = some o) → Q (some (.ref s.heap.objs.size)) { s with heap := g }) : wpAny (model prog w) A (pyNext (.ref z)) Q E s := by
  have ty : s.TypeIs (.ref z) "zip" := ⟨_, gz, rfl⟩
  unfold pyNext
  refine wpAny_bind (wpAny_attempt (wpAny_callSpecial?_slot (name := Str.ofString "__next__") ty F.slot_zip_next (wpAny_call_entry F.slot_zip_next ty F.entry_zip_next ?_ (F.args_zip_next_1 _))))
  exact zx_item D gz gI gO p1 p2 q1 q2 ex ey fun g c1 c2 c3 c4 c5 c6 => wpAny_pure (hQ g c1 c2 c3 c4 c5 c6)
theorem zx_done {Q : Option Value → Shared → Prop} (hh : A.handled = none) (D : ZipApart z TI TO i1 i2 l1 l2) (gz : IsZip s.heap z TI TO .none) (gI : IsPair s.heap TI (.ref i1) (.ref i2)) (gO : IsPair s.heap TO a b)
    (p1 : ZI k1 s.heap i1 l1 m1) (p2 : ZI k2 s.heap i2 l2 m2) (q1 : ZQ k1 s.heap l1 xs) (q2 : ZQ k2 s.heap l2 ys) (en : xs[m1]? = none ∨ ys[m2]? = none)
    (hQ : ∀ g, (∀ c o, c ≠ z → c ≠ TO → c ≠ i1 → c ≠ i2 → s.heap.get? c = some o → g.get? c = some o) → Q none { s with heap := g }) : wpAny (model prog w) A (pyNext (.ref z)) Q E s := by
  have ty : s.TypeIs (.ref z) "zip" := ⟨_, gz, rfl⟩
  unfold pyNext
  refine wpAny_bind (wpAny_attempt (wpAny_callSpecial?_slot (name := Str.ofString "__next__") ty F.slot_zip_next (wpAny_call_entry F.slot_zip_next ty F.entry_zip_next ?_ (F.args_zip_next_1 _))))
  exact zx_end hh D gz gI gO p1 p2 q1 q2 en fun g u keep ⟨o, ho, hc⟩ => wpAny_bind (wpAny_isInstance (T := "StopIteration") (b := true) ⟨o, ho, hc⟩ isSubtype_stop (wpAny_pure (hQ _ keep)))
end
def SQ (K : PySem.W.Frag) (k : Kd) (H : Hp) (a : Addr) (xs : List V) : Prop := match k with
  | .l => SqL K H a xs
  | .t => SqT K H a xs
theorem SQ.get {X : Cx} {pins : List (Addr × Obj)} {σ : L2.St} {H : Hp} {s : Shared} {k : Kd} {a : Addr} {xs : List V} (I : L2.Inv X pins σ H s) (h : SQ X.K k H a xs) : ∃ its : List Value, Vals xs its ∧ ZQ k s.heap a its.toArray := by
  cases k with
  | l => obtain ⟨its, r, p, _⟩ := I.list h; exact ⟨its, r, p.isList⟩
  | t => obtain ⟨its, r, p, _⟩ := I.tuple h; exact ⟨its, r, p⟩
theorem SQ.inj {X : Cx} {pins : List (Addr × Obj)} {σ : L2.St} {H : Hp} {s : Shared} {k : Kd} {a : Addr} {xs ys : List V} (I : L2.Inv X pins σ H s) (h : SQ X.K k H a xs) (g : SQ X.K k H a ys) : xs = ys := by
  cases k with
  | l => exact I.list_inj h g
  | t => exact I.tuple_inj h g
/-- the pairs of two rows -/
def ItX (K : PySem.W.Frag) (k1 k2 : Kd) (a b : Addr) : It :=
  ⟨fun i H => ∃ (xs ys : List V) (x y : V), SQ K k1 H a xs ∧ SQ K k2 H b ys ∧ xs[i]? = some x ∧ ys[i]? = some y,
    fun i H v H' => ∃ T x y, v = .ref T ∧ H T = none ∧ H' = upd H T (.tup [x, y]) ∧ (∀ xs, SQ K k1 H a xs → xs[i]? = some x) ∧ ∀ ys, SQ K k2 H b ys → ys[i]? = some y,
    fun i H => ∃ xs ys : List V, SQ K k1 H a xs ∧ SQ K k2 H b ys ∧ (xs.length ≤ i ∨ ys.length ≤ i)⟩
theorem five {z TI TO i1 i2 c : Addr} (h : c ∈ [z, TI, TO, i1, i2]) : c = z ∨ c = TI ∨ c = TO ∨ c = i1 ∨ c = i2 := by simpa using h
theorem turn_x {P : Program} {w : World} {K : PySem.W.Frag} {elts : List Expr} {kk : Nat} {tpos : Pos} {k1 k2 : Kd} {a b z TI TO i1 i2 : Addr} (D : ZipApart z TI TO i1 i2 a b) :
    Turn P w K (.Tuple elts kk tpos) (ItX K k1 k2 a b) [z, TI, TO, i1, i2] z (fun i h => IsZip h z TI TO .none ∧ IsPair h TI (.ref i1) (.ref i2) ∧ (∃ x y, IsPair h TO x y) ∧ ZI k1 h i1 a i ∧ ZI k2 h i2 b i) where
  mem := by simp
  obj := fun i h ⟨gz, gI, ⟨x, y, gO⟩, p1, p2⟩ c hc => by
    obtain ⟨o1, f1, e1, d1⟩ := p1.obj
    obtain ⟨o2, f2, e2, d2⟩ := p2.obj
    rcases five hc with q | q | q | q | q <;> rw [q]
    · exact ⟨_, gz, fun v q => nomatch q⟩
    · exact ⟨_, gI, fun v q => nomatch q⟩
    · exact ⟨_, gO, fun v q => nomatch q⟩
    · exact ⟨o1, e1, fun v q => by rw [d1] at q; cases q⟩
    · exact ⟨o2, e2, fun v q => by rw [d2] at q; cases q⟩
  keep := fun i h h' ⟨gz, gI, ⟨x, y, gO⟩, p1, p2⟩ k => ⟨k z (by simp) _ gz, k TI (by simp) _ gI, ⟨x, y, k TO (by simp) _ gO⟩, p1.at fun o q => k i1 (by simp) o q, p2.at fun o q => k i2 (by simp) o q⟩
  item := by
    intro X hP hw hK hc i pins s σ H E I hf ⟨gz, gI, ⟨x0, y0, gO⟩, p1, p2⟩ ⟨xs, ys, x, y, sx, sy, ex, ey⟩
    subst hP hw hK
    obtain ⟨as, ra, qa⟩ := sx.get I
    obtain ⟨bs, rb, qb⟩ := sy.get I
    obtain ⟨u, hu, ru⟩ := ra.get ex
    obtain ⟨v, hv, rv⟩ := rb.get ey
    have ltz : z < s.heap.objs.size := Heap.lt_size gz
    refine zx_next D gz gI gO p1 p2 qa qb (x := u) (y := v) (by simpa using hu) (by simpa using hv) fun g gz' gO' p1' p2' gT keep => ⟨_, rfl, wpAny_letOwnedTupleGo_zip (s := { s with heap := g }) gz' fun g2 gz2 sb => ?_⟩
    have gT2 : g2.get? s.heap.objs.size = some { cls := .type "tuple", data := .seq #[u, v] } := (sb.2 _ (Nat.ne_of_gt ltz)).trans gT
    have ok : ObjOk X.prog X.w (upd H s.heap.objs.size (.tup [x, y])) g2 s.heap.objs.size (.tup [x, y]) := ⟨by show 2 ≤ sizeLine; decide, [u, v], .cons ru (.cons rv .nil), ⟨_, gT2, rfl, _, rfl⟩⟩
    have J : L2.Inv X pins σ (upd H s.heap.objs.size (.tup [x, y])) { s with heap := g2 } :=
      I.turnedNew (t' := s.toks) (ch := [z, TI, TO, i1, i2]) (fun c o nb q => (sb.2 c (fun e => nb (by simp [e]))).trans (keep c o (fun e => nb (by simp [e])) (fun e => nb (by simp [e])) (fun e => nb (by simp [e])) (fun e => nb (by simp [e])) q)) hf (Nat.le_refl _) ok
    refine ⟨.ref s.heap.objs.size, _, J, rfl, ⟨_, x, y, rfl, I.hok.fresh (Nat.le_refl _), rfl, fun l hl => by rw [SQ.inj I hl sx]; exact ex, fun l hl => by rw [SQ.inj I hl sy]; exact ey⟩, ⟨gz2, (sb.2 _ D.TIz).trans (keep _ _ D.TIz D.TITO D.TIi1 D.TIi2 gI), ⟨u, v, (sb.2 _ D.TOz).trans gO'⟩, p1'.at fun o q => (sb.2 _ D.i1z).trans q, p2'.at fun o q => (sb.2 _ D.i2z).trans q⟩, fun c hcm => ?_⟩
    have lt : c < s.heap.objs.size := by
      obtain ⟨o1, f1, e1, _⟩ := p1.obj
      obtain ⟨o2, f2, e2, _⟩ := p2.obj
      rcases five hcm with q | q | q | q | q <;> rw [q]
      · exact ltz
      · exact Heap.lt_size gI
      · exact Heap.lt_size gO
      · exact Heap.lt_size e1
      · exact Heap.lt_size e2
    rw [upd_ne (Nat.ne_of_lt lt)]; exact (hf c hcm).1
  done := by
    intro X hP hw hK hc i pins s σ H E I hf ⟨gz, gI, ⟨x0, y0, gO⟩, p1, p2⟩ ⟨xs, ys, sx, sy, en⟩
    subst hP hw hK
    obtain ⟨as, ra, qa⟩ := sx.get I
    obtain ⟨bs, rb, qb⟩ := sy.get I
    have la := ra.length
    have lb := rb.length
    have en' : as.toArray[i]? = none ∨ bs.toArray[i]? = none := by
      rcases en with q | q
      · exact .inl (by simp; omega)
      · exact .inr (by simp; omega)
    exact zx_done (I.ok.hd hc) D gz gI gO p1 p2 qa qb en' fun g keep => ⟨rfl, I.turnedL (t' := s.toks) (ch := [z, TI, TO, i1, i2]) (fun c o nb q => keep c o (fun e => nb (by simp [e])) (fun e => nb (by simp [e])) (fun e => nb (by simp [e])) (fun e => nb (by simp [e])) q) hf⟩
  self := fun A i s Q E st h => wpAny_pyIter_zip st.1 h
/-! the call -/
def iob (k : Kd) (a : Addr) : Obj := match k with
  | .l => { cls := .type "list_iterator", data := .fields #[.ref a, .int 0 0] }
  | .t => { cls := .type "tuple_iterator", data := .fields #[.ref a, .int 0 0] }
abbrev zh1 (k1 : Kd) (h : Heap) (a : Addr) : Heap := h.push (iob k1 a)
abbrev zh2 (k1 k2 : Kd) (h : Heap) (a b : Addr) : Heap := (zh1 k1 h a).push (iob k2 b)
abbrev zh3 (k1 k2 : Kd) (h : Heap) (a b : Addr) : Heap := (zh2 k1 k2 h a b).push { cls := .type "tuple", data := .seq #[.ref h.objs.size, .ref (zh1 k1 h a).objs.size] }
abbrev zh4 (k1 k2 : Kd) (h : Heap) (a b : Addr) : Heap := (zh3 k1 k2 h a b).push { cls := .type "tuple", data := .seq #[.none, .none] }
abbrev zh5 (k1 k2 : Kd) (h : Heap) (a b : Addr) : Heap := (zh4 k1 k2 h a b).push { cls := .type "zip", data := .fields #[.none, .bool false, .bool false, .ref (zh2 k1 k2 h a b).objs.size, .ref (zh3 k1 k2 h a b).objs.size] }
theorem ZQ.push {k : Kd} {h : Heap} {a : Addr} {xs : Array Value} (x : ZQ k h a xs) (o : Obj) : ZQ k (h.push o) a xs := by
  cases k with
  | l => exact Heap.IsList.push x _
  | t => exact Heap.IsTuple.push x _
theorem ZQ.iter {prog : Program} {w : World} {A : Around} {E : Value → Shared → Prop} {s : Shared} {k : Kd} {a : Addr} {xs : Array Value} {Q : Value → Shared → Prop} (x : ZQ k s.heap a xs) (h : Q (.ref s.heap.objs.size) { s with heap := s.heap.push (iob k a) }) : wpAny (model prog w) A (pyIter (.ref a)) Q E s := by
  cases k with
  | l => exact wpAny_pyIter_list x h
  | t => exact wpAny_pyIter_tuple x h
theorem meets_x (k1 k2 : Kd) (a b : Addr) (xs ys : Array Value) : Meets (Builtin.«zip.__new__» ⟨[.type "zip", .ref a, .ref b], []⟩) (fun _ R s => ZQ k1 s.heap a xs ∧ ZQ k2 s.heap b ys ∧ R (.ok (.ret (.ref (zh4 k1 k2 s.heap a b).objs.size))) { s with heap := zh5 k1 k2 s.heap a b }) :=
  .of_wp fun prog w A R s h => by
    obtain ⟨hp, g, d, tk, os⟩ := s
    obtain ⟨q1, q2, h⟩ := h
    have hsub := sub_zip
    have q1' : ZQ k1 (Shared.heap ⟨hp, g, d, tk, os⟩) a xs := q1
    have q2' : ZQ k2 (Shared.heap ⟨hp.push (iob k1 a), g, d, tk, os⟩) b ys := q2.push _
    wp_walk using ZQ.iter q1', ZQ.iter q2'
    exact ⟨_, rfl, h⟩
theorem call_x {prog : Program} {w : World} {A : Around} {E : Value → Shared → Prop} {s : Shared} {k1 k2 : Kd} {a b : Addr} {xs ys : Array Value} {Q : Value → Shared → Prop} (q1 : ZQ k1 s.heap a xs) (q2 : ZQ k2 s.heap b ys)
    (h : ∀ g, IsZip g (s.heap.objs.size + 4) (s.heap.objs.size + 2) (s.heap.objs.size + 3) .none → IsPair g (s.heap.objs.size + 2) (.ref s.heap.objs.size) (.ref (s.heap.objs.size + 1)) → IsPair g (s.heap.objs.size + 3) .none .none →
      ZI k1 g s.heap.objs.size a 0 → ZI k2 g (s.heap.objs.size + 1) b 0 → (∀ c o, s.heap.get? c = some o → g.get? c = some o) → Q (.ref (s.heap.objs.size + 4)) { s with heap := g }) : wpAny (model prog w) A (call (.type "zip") [.ref a, .ref b]) Q E s := by
  refine callType_new F.called_zip (by decide) (F.typeCall_zip_2 _ _) (F.newCall_zip_2 _ _) (fun obj => F.args_object_init_3 obj _ _) F.entry_zip_new (meets_x k1 k2 a b xs ys) ⟨q1, q2, ?_⟩
  have n1 : (zh1 k1 s.heap a).objs.size = s.heap.objs.size + 1 := Heap.size_push ..
  have n2 : (zh2 k1 k2 s.heap a b).objs.size = s.heap.objs.size + 2 := by rw [Heap.size_push, n1]
  have n3 : (zh3 k1 k2 s.heap a b).objs.size = s.heap.objs.size + 3 := by rw [Heap.size_push, n2]
  have n4 : (zh4 k1 k2 s.heap a b).objs.size = s.heap.objs.size + 4 := by rw [Heap.size_push, n3]
  have old : ∀ c o, s.heap.get? c = some o → (zh5 k1 k2 s.heap a b).get? c = some o := fun c o x => Heap.get?_push_of_some _ (Heap.get?_push_of_some _ (Heap.get?_push_of_some _ (Heap.get?_push_of_some _ (Heap.get?_push_of_some _ x))))
  have fr1 : (iob k1 a).isFreed = false := by cases k1 <;> rfl
  have fr2 : (iob k2 b).isFreed = false := by cases k2 <;> rfl
  have e5 : (zh5 k1 k2 s.heap a b).get? (zh4 k1 k2 s.heap a b).objs.size = some _ := Heap.get?_push_size _ rfl
  have e4 : (zh5 k1 k2 s.heap a b).get? (zh3 k1 k2 s.heap a b).objs.size = some _ := Heap.get?_push_of_some _ (Heap.get?_push_size _ rfl)
  have e3 : (zh5 k1 k2 s.heap a b).get? (zh2 k1 k2 s.heap a b).objs.size = some _ := Heap.get?_push_of_some _ (Heap.get?_push_of_some _ (Heap.get?_push_size _ rfl))
  have e2 : (zh5 k1 k2 s.heap a b).get? (zh1 k1 s.heap a).objs.size = some (iob k2 b) := Heap.get?_push_of_some _ (Heap.get?_push_of_some _ (Heap.get?_push_of_some _ (Heap.get?_push_size _ fr2)))
  have e1 : (zh5 k1 k2 s.heap a b).get? s.heap.objs.size = some (iob k1 a) := Heap.get?_push_of_some _ (Heap.get?_push_of_some _ (Heap.get?_push_of_some _ (Heap.get?_push_of_some _ (Heap.get?_push_size _ fr1))))
  show _ ∧ _
  rw [n2, n3, n4] at e5
  rw [n1, n2] at e3
  rw [n3] at e4
  rw [n1] at e2
  rw [n4]
  have c1 : ZI k1 (zh5 k1 k2 s.heap a b) s.heap.objs.size a 0 := by cases k1 <;> exact ⟨_, e1, rfl, rfl⟩
  have c2 : ZI k2 (zh5 k1 k2 s.heap a b) (s.heap.objs.size + 1) b 0 := by cases k2 <;> exact ⟨_, e2, rfl, rfl⟩
  exact ⟨⟨_, e5, rfl⟩, h _ e5 e3 e4 c1 c2 old⟩
def iZX (K : PySem.W.Frag) (ta : TA) : TI := fun σ H R => ta σ H fun vs H1 => ∃ k1 k2 a b xs ys, vs = [.ref a, .ref b] ∧ SQ K k1 H1 a xs ∧ SQ K k2 H1 b ys ∧ R (ItX K k1 k2 a b) H1
theorem pi_zx {X : Cx} {e e2 : Expr} {ta : TA} {p pos tpos : Pos} {elts : List Expr} {kk : Nat} (hg : Gl X "zip") (hm : X.mg "zip" = none) (ha : PA X [e, e2] ta)
    (hs : starEach [e, e2] X.env = (false, eval e X.env) :: starEach [e2] X.env) (hpl : (backTo pos (starEach [e2] X.env)).any (·.1) = false) : PI X (.Tuple elts kk tpos) (.Call (.Name "zip" p) [e, e2] [] pos) (iZX X.K ta) := by
  refine ⟨fun pins s σ H R I h => Call_ (ld_blt I hg hm PyProof.Rows.boot_zip (PyProof.Rows.callWith_type1 (thn (ha.run pos pins s σ H _ I h) fun us s1 ⟨vs, H1, I1, r1, q⟩ => ?_) hs hpl))⟩
  obtain ⟨k1, k2, a, b, xs, ys, ev, sx, sy, q⟩ := q
  subst ev
  cases r1 with
  | cons r rr =>
    cases rr with
    | cons r' rr =>
      cases rr; cases r; cases r'
      obtain ⟨as, ra, qa⟩ := sx.get I1
      obtain ⟨bs, rb, qb⟩ := sy.get I1
      refine call_x qa qb fun g gz gI gO c1 c2 keep => wpAny_pyIter_zip gz ?_
      have J : L2.Inv X pins σ H1 { s1 with heap := g } := I1.kept (t' := s1.toks) keep
      refine ⟨s1.heap.objs.size + 4, [s1.heap.objs.size + 4, s1.heap.objs.size + 2, s1.heap.objs.size + 3, s1.heap.objs.size, s1.heap.objs.size + 1], _, _, H1, rfl, J, turn_x (PySem.W.ktu_apart s1.heap.objs.size a b qa.lt qb.lt), ⟨gz, gI, ⟨_, _, gO⟩, c1, c2⟩, fun c hc => ?_, q⟩
      have le : s1.heap.objs.size ≤ c := by rcases five hc with e | e | e | e | e <;> rw [e] <;> first | exact Nat.le_add_right _ _ | exact Nat.le_refl _
      exact I1.fpOk le (I1.hok.fresh le)
/-! by data -/
theorem walks_x {K : PySem.W.Frag} {k1 k2 : Kd} {a b : Addr} {xs ys : List V} {as bs : List D} : Walks K (ItX K k1 k2 a b) (List.zipWith (fun x y => .tup [x, y]) as bs) (fun H => SQ K k1 H a xs ∧ SQ K k2 H b ys ∧ RepL K H xs as ∧ RepL K H ys bs ∧ (k1 = .l → FzL K H a xs) ∧ (k2 = .l → FzL K H b ys)) where
  stay := fun H H' ⟨h1, h2, r1, r2, f1, f2⟩ e => by
    refine ⟨?_, ?_, r1.ext e, r2.ext e, fun z => e.fzl (f1 z), fun z => e.fzl (f2 z)⟩
    · cases k1 with
      | l => exact (e.fzl (f1 rfl)).sql
      | t => exact e.sqt h1
    · cases k2 with
      | l => exact (e.fzl (f2 rfl)).sql
      | t => exact e.sqt h2
  go := fun i H ⟨h1, h2, r1, r2, _, _⟩ hi => by
    rw [List.length_zipWith, ← r1.length, ← r2.length] at hi
    exact ⟨xs, ys, xs[i]'(by omega), ys[i]'(by omega), h1, h2, List.getElem?_eq_getElem _, List.getElem?_eq_getElem _⟩
  yld := fun i H x H' d ⟨h1, h2, r1, r2, _, _⟩ ed ⟨T, u, v, ex, hT, eH, f, g⟩ => by
    subst ex eH
    rw [List.getElem?_zipWith] at ed
    cases e1 : as[i]? with
    | none => rw [e1] at ed; simp at ed
    | some p =>
      cases e2 : bs[i]? with
      | none => rw [e1, e2] at ed; simp at ed
      | some q =>
        rw [e1, e2] at ed
        have ed' : D.tup [p, q] = d := by simpa using ed
        subst ed'
        obtain ⟨u', a1, a2⟩ := r1.get e1
        obtain ⟨v', b1, b2⟩ := r2.get e2
        have := f xs h1
        rw [a1] at this
        cases this
        have := g ys h2
        rw [b1] at this
        cases this
        exact ⟨Ext.new hT, .tup (.of upd_same) (.cons (a2.ext (Ext.new hT)) (.cons (b2.ext (Ext.new hT)) .nil)), fun _ r => r.new hT, fun c zs e => by rw [upd_ne (ne_of_none e hT)]; exact e⟩
  stop := fun i H ⟨h1, h2, r1, r2, _, _⟩ hi => by
    rw [List.length_zipWith, ← r1.length, ← r2.length] at hi
    exact ⟨xs, ys, h1, h2, by omega⟩
/-- a list or a tuple that stays -/
def fixOf (d : D) : Option (List D) := match d with
  | .tup ds => some ds
  | .lst ds => some ds
  | _ => none
def wZip (was : WA) : WI := fun env S P X => was env S (fun ds S' => match ds with
  | [x, y] => match fixOf x, fixOf y with
    | some as, some bs => P (List.zipWith (fun x y => .tup [x, y]) as bs) S'
    | _, _ => False
  | _ => False) X
theorem fix_rep {K : PySem.W.Frag} {H : Hp} {v : V} {d : D} {ds : List D} (r : Rep K H v d) (h : fixOf d = some ds) : ∃ k p vs, v = .ref p ∧ SQ K k H p vs ∧ RepL K H vs ds ∧ (k = .l → FzL K H p vs) := by
  cases r with
  | tup h1 t => cases h; exact ⟨.t, _, _, rfl, h1, t, fun z => by cases z⟩
  | lst h1 t => cases h; exact ⟨.l, _, _, rfl, h1.sql, t, fun _ => h1⟩
  | _ => cases h
theorem ii_zip {X : Cx} {W : WX} {a b : Expr} {was : WA} {p pos tpos : Pos} {elts : List Expr} {kk : Nat} (hg : Gl X "zip") (hm : X.mg "zip" = none) (ha : IA X W [a, b] was)
    (hs : starEach [a, b] X.env = (false, eval a X.env) :: starEach [b] X.env) (hpl : (backTo pos (starEach [b] X.env)).any (·.1) = false) : II X W (.Tuple elts kk tpos) (.Call (.Name "zip" p) [a, b] [] pos) (wZip was) := by
  refine (pi_zx hg hm ha hs hpl).of fun σ H R ⟨env, S, P, x, re, rs, h, hx, hq⟩ => ?_
  refine ⟨env, S, _, x, re, rs, h, fun ds S' vs H' p' _ e1 r s => ?_, hx⟩
  dsimp only at p'
  split at p'
  · rename_i d1 d2
    split at p'
    · rename_i as bs e2 e3
      obtain ⟨v, u, rfl, r1, r2⟩ := rl2 r
      obtain ⟨k1, q1, xs, rfl, s1, t1, f1⟩ := fix_rep r1 e2
      obtain ⟨k2, q2, ys, rfl, s2, t2, f2⟩ := fix_rep r2 e3
      exact ⟨k1, k2, q1, q2, xs, ys, rfl, s1, s2, hq _ S' _ H' _ p' e1 s ⟨s1, s2, t1, t2, f1, f2⟩ walks_x⟩
    · exact p'.elim
  · exact p'.elim
/-! reversed, enumerate -/
theorem walks_rl {K : PySem.W.Frag} {p : Addr} {vs : List V} {ds : List D} (hl : vs.length = ds.length) : Walks K (Itv K p vs.length) ds.reverse (fun H => FzL K H p vs ∧ RepL K H vs ds) where
  stay := fun H H' ⟨h, r⟩ e => ⟨e.fzl h, r.ext e⟩
  go := fun i H ⟨h, r⟩ hi => by
    rw [List.length_reverse] at hi
    exact ⟨by omega, vs, vs[vs.length - 1 - i]'(by omega), h.sql, List.getElem?_eq_getElem _⟩
  yld := fun i H x H' d ⟨h, r⟩ ed ⟨e, f⟩ => by
    subst e
    have hi : i < ds.length := by
      have := (List.getElem?_eq_some_iff.mp ed).1
      rwa [List.length_reverse] at this
    rw [List.getElem?_reverse hi, ← hl] at ed
    obtain ⟨v, ev, rv⟩ := r.get ed
    have := f vs h.sql
    rw [ev] at this
    cases this
    exact ⟨Ext.refl _, rv, fun _ z => z, fun _ _ z => z⟩
  stop := fun i H ⟨h, r⟩ hi => by
    rw [List.length_reverse] at hi
    show vs.length ≤ i
    omega
theorem walks_rt {K : PySem.W.Frag} {p : Addr} {vs : List V} {ds : List D} (hl : vs.length = ds.length) : Walks K (RT.ItvT K p vs.length) ds.reverse (fun H => SqT K H p vs ∧ RepL K H vs ds) where
  stay := fun H H' ⟨h, r⟩ e => ⟨e.sqt h, r.ext e⟩
  go := fun i H ⟨h, r⟩ hi => by
    rw [List.length_reverse] at hi
    exact ⟨by omega, vs, vs[vs.length - 1 - i]'(by omega), h, List.getElem?_eq_getElem _⟩
  yld := fun i H x H' d ⟨h, r⟩ ed ⟨e, f⟩ => by
    subst e
    have hi : i < ds.length := by
      have := (List.getElem?_eq_some_iff.mp ed).1
      rwa [List.length_reverse] at this
    rw [List.getElem?_reverse hi, ← hl] at ed
    obtain ⟨v, ev, rv⟩ := r.get ed
    have := f vs h
    rw [ev] at this
    cases this
    exact ⟨Ext.refl _, rv, fun _ z => z, fun _ _ z => z⟩
  stop := fun i H ⟨h, r⟩ hi => by
    rw [List.length_reverse] at hi
    show vs.length ≤ i
    omega
def wRevI (wa : WE) : WI := fun env S P X => wa env S (fun d S' => match fixOf d with
  | some ds => P ds.reverse S'
  | none => False) X
theorem ii_rev {X : Cx} {W : WX} {tg a : Expr} {wa : WE} {p pos : Pos} (hg : Gl X "reversed") (hm : X.mg "reversed" = none) (ha : IE X W a wa) (hs : starEach [a] X.env = (false, eval a X.env) :: starEach [] X.env) : II X W tg (.Call (.Name "reversed" p) [a] [] pos) (wRevI wa) := by
  refine (RT.pi_revA hg hm ha hs).of fun σ H R ⟨env, S, P, x, re, rs, h, hx, hq⟩ => ?_
  refine ⟨env, S, _, x, re, rs, h, fun d S' v H' p' e1 r s => ?_, hx⟩
  dsimp only at p'
  cases r with
  | tup h1 t =>
    exact ⟨_, _, rfl, .inr ⟨h1, hq _ S' _ H' _ p' e1 s ⟨h1, t⟩ (walks_rt t.length)⟩⟩
  | lst h1 t =>
    exact ⟨_, _, rfl, .inl ⟨h1.sql, hq _ S' _ H' _ p' e1 s ⟨h1, t⟩ (walks_rl t.length)⟩⟩
  | _ => exact p'.elim
def enumD (ds : List D) : List D := ds.mapIdx fun i d => .tup [.int (i : Nat), d]
section
variable {prog : Program} {w : World} {A : Around} {E : Value → Shared → Prop} {s : Shared} {e it c : Addr} {n : Nat} {xs : Array Value} {x old : Value} {k : Kd}
theorem eo_item {Q : Value → Shared → Prop} (ge : IsEnum s.heap e it n old) (p : ZI k s.heap it c n) (q : ZQ k s.heap c xs) (ex : xs[n]? = some x) (ne : e ≠ it)
    (hQ : ∀ g, IsEnumOut g e it ((n : Int) + 1) x s.heap.objs.size → ZI k g it c (n + 1) → g.get? s.heap.objs.size = some { cls := .type "tuple", data := .seq #[.int n s.toks, x] } →
      (∀ b o, b ≠ e → b ≠ it → s.heap.get? b = some o → g.get? b = some o) → Q (.ref s.heap.objs.size) { s with heap := g, toks := s.toks + 1 }) :
    wpAny (model prog w) A (Builtin.«enumerate.__next__» ⟨[.ref e], []⟩) (fun fin s' => ∃ v, fin = .done (.ret v) ∧ Q v s') E s := by
  obtain ⟨hp, g0, d, tk, os⟩ := s
  show wpAny _ _ (field (.ref e) 2 >>= _) _ _ _; refine wpAny_bind (wpAny_field ge rfl (x := .ref it) rfl (wpAny_bind (p.next q ex fun g1 p1 b1 => ?_)))
  replace b1 : Heap.SameBut it hp g1 := b1
  have ge1 : IsEnum g1 e it n old := (b1.2 e ne).trans ge
  show wpAny _ _ (field (.ref e) 3 >>= _) _ _ ⟨g1, g0, d, tk, os⟩; refine wpAny_bind (wpAny_field ge1 rfl (x := rawInt n) rfl ?_)
  show wpAny _ _ (field (.ref e) 4 >>= _) _ _ ⟨g1, g0, d, tk, os⟩; refine wpAny_bind (wpAny_field ge1 rfl (x := .none) rfl ?_)
  show wpAny _ _ (mkInt n >>= _) _ _ ⟨g1, g0, d, tk, os⟩; refine wpAny_bind (wpAny_mkInt ?_)
  show wpAny _ _ (setField (.ref e) 3 (rawInt ((n : Int) + 1)) >>= _) _ _ ⟨g1, g0, d, tk + 1, os⟩; refine wpAny_bind (wpAny_setField_rec ge1 (by simp) fun g2 ge2 b2 => ?_)
  replace b2 : Heap.SameBut e g1 g2 := b2
  replace ge2 : IsEnum g2 e it ((n : Int) + 1) old := ge2
  show wpAny _ _ (setField (.ref e) 4 .none >>= _) _ _ ⟨g2, g0, d, tk + 1, os⟩; refine wpAny_bind (wpAny_setField_rec ge2 (by simp) fun g3 ge3 b3 => ?_)
  replace b3 : Heap.SameBut e g2 g3 := b3
  replace ge3 : IsEnum g3 e it ((n : Int) + 1) old := ge3
  show wpAny _ _ (newTuple [.int n tk, x] >>= _) _ _ ⟨g3, g0, d, tk + 1, os⟩; refine wpAny_bind (wpAny_newTuple ?_)
  have sz : g3.objs.size = hp.objs.size := by rw [b3.1, b2.1, b1.1]
  have lt : e < hp.objs.size := Heap.lt_size ge
  have ge4 : IsEnum (g3.push { cls := .type "tuple", data := .seq #[.int n tk, x] }) e it ((n : Int) + 1) old := Heap.get?_push_of_some _ ge3
  have gT : (g3.push { cls := .type "tuple", data := .seq #[.int n tk, x] }).get? hp.objs.size = some { cls := .type "tuple", data := .seq #[.int n tk, x] } := by rw [← sz]; exact Heap.get?_push_size _ rfl
  have old4 : ∀ b o, b ≠ e → b ≠ it → hp.get? b = some o → (g3.push { cls := .type "tuple", data := .seq #[.int n tk, x] }).get? b = some o := fun b o n1 n2 y => Heap.get?_push_of_some _ (b3.extBut b o n1 (b2.extBut b o n1 (b1.extBut b o n2 y)))
  have p4 : ZI k (g3.push { cls := .type "tuple", data := .seq #[.int n tk, x] }) it c (n + 1) := ((p1.but b2.extBut ne.symm).but b3.extBut ne.symm).at fun o y => Heap.get?_push_of_some _ y
  rw [sz]
  generalize g3.push { cls := .type "tuple", data := .seq #[.int n tk, x] } = g4 at *
  show wpAny _ _ (Builtin.SmallTypes.ownedTupleIsFree (.ref e) >>= _) _ _ ⟨g4, g0, d, tk + 1, os⟩; refine wpAny_bind ?_; unfold Builtin.SmallTypes.ownedTupleIsFree
  refine wpAny_bind (wpAny_field ge4 rfl (x := .none) rfl (wpAny_pure ?_)); simp only [if_true]
  refine wpAny_bind (wpAny_rule (wpAny_bind (wpAny_field ge4 rfl (x := old) rfl (wpAny_bind (wpAny_setField_rec ge4 (by simp) fun g5 ge5 b5 => ?_)))))
  replace b5 : Heap.SameBut e g4 g5 := b5
  replace ge5 : IsEnum g5 e it ((n : Int) + 1) x := ge5
  show wpAny _ _ (Builtin.SmallTypes.ownedTupleHandOut (.ref e) (.ref hp.objs.size) >>= _) _ _ ⟨g5, g0, d, tk + 1, os⟩; refine wpAny_bind ?_; unfold Builtin.SmallTypes.ownedTupleHandOut
  refine wpAny_bind (wpAny_setField_rec ge5 (by simp) fun g6 ge6 b6 => ?_)
  replace b6 : Heap.SameBut e g5 g6 := b6
  replace ge6 : IsEnumOut g6 e it ((n : Int) + 1) x hp.objs.size := ge6
  refine wpAny_setField_rec ge6 (by simp) fun g7 ge7 b7 => ?_
  replace b7 : Heap.SameBut e g6 g7 := b7
  refine wpAny_bind (wpAny_letGo (wpAny_pure ⟨_, rfl, hQ g7 ge7 (((p4.but b5.extBut ne.symm).but b6.extBut ne.symm).but b7.extBut ne.symm) ?_ ?_⟩))
  · exact b7.extBut _ _ (Nat.ne_of_gt lt) (b6.extBut _ _ (Nat.ne_of_gt lt) (b5.extBut _ _ (Nat.ne_of_gt lt) gT))
  · exact fun b o n1 n2 y => b7.extBut b o n1 (b6.extBut b o n1 (b5.extBut b o n1 (old4 b o n1 n2 y)))
theorem eo_next {Q : Option Value → Shared → Prop} (ge : IsEnum s.heap e it n old) (p : ZI k s.heap it c n) (q : ZQ k s.heap c xs) (ex : xs[n]? = some x) (ne : e ≠ it)
    (hQ : ∀ g, IsEnumOut g e it ((n : Int) + 1) x s.heap.objs.size → ZI k g it c (n + 1) → g.get? s.heap.objs.size = some { cls := .type "tuple", data := .seq #[.int n s.toks, x] } →
      (∀ b o, b ≠ e → b ≠ it → s.heap.get? b = some o → g.get? b = some o) → Q (some (.ref s.heap.objs.size)) { s with heap := g, toks := s.toks + 1 }) : wpAny (model prog w) A (pyNext (.ref e)) Q E s := by
  have ty : s.TypeIs (.ref e) "enumerate" := ⟨_, ge, rfl⟩
  unfold pyNext
  exact wpAny_bind (wpAny_attempt (wpAny_callSpecial?_slot (name := Str.ofString "__next__") ty F.slot_enumerate_next (wpAny_call_entry F.slot_enumerate_next ty F.entry_enumerate_next (eo_item ge p q ex ne fun g c1 c2 c3 c4 => wpAny_pure (hQ g c1 c2 c3 c4)) (F.args_enumerate_next_1 _))))
theorem eo_done {Q : Option Value → Shared → Prop} (hh : A.handled = none) (ge : IsEnum s.heap e it n old) (p : ZI k s.heap it c n) (q : ZQ k s.heap c xs) (en : xs[n]? = none)
    (hQ : ∀ g, Heap.ExtBut it s.heap g → Q none { s with heap := g }) : wpAny (model prog w) A (pyNext (.ref e)) Q E s := by
  have ty : s.TypeIs (.ref e) "enumerate" := ⟨_, ge, rfl⟩
  unfold pyNext
  refine wpAny_bind (wpAny_attempt (wpAny_callSpecial?_slot (name := Str.ofString "__next__") ty F.slot_enumerate_next (wpAny_call_entry F.slot_enumerate_next ty F.entry_enumerate_next ?_ (F.args_enumerate_next_1 _))))
  show wpAny _ _ (field (.ref e) 2 >>= _) _ _ _; refine wpAny_bind (wpAny_field ge rfl (x := .ref it) rfl (wpAny_bind (p.stop hh q en fun g y keep ⟨o, ho, hc⟩ => ?_)))
  exact wpAny_bind (wpAny_isInstance (T := "StopIteration") (b := true) ⟨o, ho, hc⟩ isSubtype_stop (wpAny_pure (hQ _ keep)))
theorem meets_en (k : Kd) (a : Addr) (xs : Array Value) : Meets (Builtin.«enumerate.__new__» ⟨[.type "enumerate", .ref a], []⟩) (fun _ R s => ZQ k s.heap a xs ∧
    R (.ok (.ret (.ref (s.heap.push (iob k a)).objs.size))) { s with heap := (s.heap.push (iob k a)).push { cls := .type "enumerate", data := .fields #[.none, .bool false, .ref s.heap.objs.size, rawInt 0, .none, .none] } }) :=
  .of_wp fun prog w A R s h => by
    obtain ⟨hp, g, d, tk, os⟩ := s
    obtain ⟨q1, h⟩ := h
    have hsub := sub_enumerate
    have q1' : ZQ k (Shared.heap ⟨hp, g, d, tk, os⟩) a xs := q1
    wp_walk
    refine wpAny_stack_any fun st => wpAny_pure ?_; split
    · rename_i c _ _ _ _ _
      cases (c == Value.type "enumerate")
      · wp_walk using ZQ.iter q1'
        exact ⟨_, rfl, h⟩
      · wp_walk using ZQ.iter q1'
        exact ⟨_, rfl, h⟩
    · wp_walk using ZQ.iter q1'
      exact ⟨_, rfl, h⟩
theorem call_en {a : Addr} {Q : Value → Shared → Prop} (q : ZQ k s.heap a xs) (h : ∀ g, IsEnum g (s.heap.objs.size + 1) s.heap.objs.size 0 .none → ZI k g s.heap.objs.size a 0 → (∀ b o, s.heap.get? b = some o → g.get? b = some o) → Q (.ref (s.heap.objs.size + 1)) { s with heap := g }) :
    wpAny (model prog w) A (call (.type "enumerate") [.ref a]) Q E s := by
  refine callType_new F.called_enumerate (by decide) (F.typeCall_enumerate_1 _) (F.newCall_enumerate_1 _) (fun obj => F.args_object_init_2 obj _) F.entry_enumerate_new (meets_en k a xs) ⟨q, ?_⟩
  have n1 : (s.heap.push (iob k a)).objs.size = s.heap.objs.size + 1 := Heap.size_push ..
  have fr1 : (iob k a).isFreed = false := by cases k <;> rfl
  have e2 : ((s.heap.push (iob k a)).push { cls := .type "enumerate", data := .fields #[.none, .bool false, .ref s.heap.objs.size, rawInt 0, .none, .none] }).get? (s.heap.push (iob k a)).objs.size = some _ := Heap.get?_push_size _ rfl
  have e1 : ((s.heap.push (iob k a)).push { cls := .type "enumerate", data := .fields #[.none, .bool false, .ref s.heap.objs.size, rawInt 0, .none, .none] }).get? s.heap.objs.size = some (iob k a) := Heap.get?_push_of_some _ (Heap.get?_push_size _ fr1)
  have c1 : ZI k ((s.heap.push (iob k a)).push { cls := .type "enumerate", data := .fields #[.none, .bool false, .ref s.heap.objs.size, rawInt 0, .none, .none] }) s.heap.objs.size a 0 := by cases k <;> exact ⟨_, e1, rfl, rfl⟩
  show _ ∧ _
  rw [n1] at e2 ⊢
  exact ⟨⟨_, e2, rfl⟩, h _ e2 c1 fun b o y => Heap.get?_push_of_some _ (Heap.get?_push_of_some _ y)⟩
end
/-- the pairs of place and item -/
def ItE (K : PySem.W.Frag) (k : Kd) (a : Addr) : It :=
  ⟨fun i H => ∃ (xs : List V) (x : V), SQ K k H a xs ∧ xs[i]? = some x, fun i H v H' => ∃ T x, v = .ref T ∧ H T = none ∧ H' = upd H T (.tup [.int (i : Nat), x]) ∧ ∀ xs, SQ K k H a xs → xs[i]? = some x, fun i H => ∃ xs : List V, SQ K k H a xs ∧ xs.length ≤ i⟩
theorem two_of {e it c : Addr} (h : c ∈ [e, it]) : c = e ∨ c = it := by simpa using h
theorem turn_en {P : Program} {w : World} {K : PySem.W.Frag} {elts : List Expr} {kk : Nat} {tpos : Pos} {k : Kd} (a e it : Addr) :
    Turn P w K (.Tuple elts kk tpos) (ItE K k a) [e, it] e (fun i h => (∃ old, IsEnum h e it ((i : Nat) : Int) old) ∧ ZI k h it a i ∧ e ≠ it) where
  mem := by simp
  obj := fun i h ⟨⟨old, ge⟩, p, _⟩ b hb => by
    obtain ⟨o, f, e1, d⟩ := p.obj
    rcases two_of hb with z | z <;> rw [z]
    · exact ⟨_, ge, fun v q => nomatch q⟩
    · exact ⟨o, e1, fun v q => by rw [d] at q; cases q⟩
  keep := fun i h h' ⟨⟨old, ge⟩, p, ne⟩ k => ⟨⟨old, k e (by simp) _ ge⟩, p.at fun o q => k it (by simp) o q, ne⟩
  item := by
    intro X hP hw hK hc i pins s σ H E I hf ⟨⟨old, ge⟩, p, ne⟩ ⟨xs, x, sx, ex⟩
    subst hP hw hK
    obtain ⟨as, ra, qa⟩ := sx.get I
    obtain ⟨u, hu, ru⟩ := ra.get ex
    have lt : e < s.heap.objs.size := Heap.lt_size ge
    obtain ⟨o1, f1, e1, _⟩ := p.obj
    have lt2 : it < s.heap.objs.size := Heap.lt_size e1
    refine eo_next ge p qa (x := u) (by simpa using hu) ne fun g ge' p' gT keep => ⟨_, rfl, wpAny_letOwnedTupleGo_enum (s := { s with heap := g, toks := s.toks + 1 }) ge' fun g2 ge2 sb => ?_⟩
    have gT2 : g2.get? s.heap.objs.size = some { cls := .type "tuple", data := .seq #[.int i s.toks, u] } := (sb.2 _ (Nat.ne_of_gt lt)).trans gT
    have ok : ObjOk X.prog X.w (upd H s.heap.objs.size (.tup [.int (i : Nat), x])) g2 s.heap.objs.size (.tup [.int (i : Nat), x]) := ⟨by show 2 ≤ sizeLine; decide, [.int i s.toks, u], .cons ⟨_, rfl⟩ (.cons ru .nil), ⟨_, gT2, rfl, _, rfl⟩⟩
    have J : L2.Inv X pins σ (upd H s.heap.objs.size (.tup [.int (i : Nat), x])) { s with heap := g2, toks := s.toks + 1 } :=
      I.turnedNew (ch := [e, it]) (fun b o nb q => (sb.2 b (fun z => nb (by simp [z]))).trans (keep b o (fun z => nb (by simp [z])) (fun z => nb (by simp [z])) q)) hf (Nat.le_refl _) ok
    refine ⟨.ref s.heap.objs.size, _, J, rfl, ⟨_, x, rfl, I.hok.fresh (Nat.le_refl _), rfl, fun l hl => by rw [SQ.inj I hl sx]; exact ex⟩, ⟨⟨u, ?_⟩, p'.at fun o q => (sb.2 it (Ne.symm ne)).trans q, ne⟩, fun b hb => ?_⟩
    · rw [show ((i + 1 : Nat) : Int) = (i : Int) + 1 by omega]; exact ge2
    · have hb' : b < s.heap.objs.size := by rcases two_of hb with z | z <;> rw [z] <;> assumption
      rw [upd_ne (Nat.ne_of_lt hb')]; exact (hf b hb).1
  done := by
    intro X hP hw hK hc i pins s σ H E I hf ⟨⟨old, ge⟩, p, ne⟩ ⟨xs, sx, en⟩
    subst hP hw hK
    obtain ⟨as, ra, qa⟩ := sx.get I
    obtain ⟨f0, f1, f2, f3, f4, f5⟩ := hf it (by simp)
    have la := ra.length
    exact eo_done (I.ok.hd hc) ge p qa (by simp; omega) fun g eb => ⟨rfl, I.turned (t' := s.toks) (fun b o hb q => eb b o hb q) f0 f1 f3 f4 f5⟩
  self := fun A i s Q E ⟨⟨_, ge⟩, _⟩ y => wpAny_pyIter_enum ge y
def iEN (K : PySem.W.Frag) (ta : TA) : TI := fun σ H R => ta σ H fun vs H1 => ∃ k a xs, vs = [.ref a] ∧ SQ K k H1 a xs ∧ R (ItE K k a) H1
theorem pi_en {X : Cx} {e : Expr} {ta : TA} {p pos tpos : Pos} {elts : List Expr} {kk : Nat} (hg : Gl X "enumerate") (hm : X.mg "enumerate" = none) (ha : PA X [e] ta) (hs : starEach [e] X.env = [(false, eval e X.env)]) : PI X (.Tuple elts kk tpos) (.Call (.Name "enumerate" p) [e] [] pos) (iEN X.K ta) := by
  refine ⟨fun pins s σ H R I h => Call_ (ld_blt I hg hm boot_enumerate (PyProof.Rows.callWith_type1 (thn (ha.run pos pins s σ H _ I h) fun us s1 ⟨vs, H1, I1, r1, q1⟩ => ?_) hs rfl))⟩
  obtain ⟨k, a, xs, ev, sx, q⟩ := q1
  subst ev
  cases r1 with
  | cons r rr =>
    cases rr; cases r
    obtain ⟨as, ra, qa⟩ := sx.get I1
    refine call_en qa fun g ge c1 keep => wpAny_pyIter_enum ge ?_
    have J : L2.Inv X pins σ H1 { s1 with heap := g } := I1.kept (t' := s1.toks) keep
    refine ⟨s1.heap.objs.size + 1, [s1.heap.objs.size + 1, s1.heap.objs.size], _, _, H1, rfl, J, turn_en a (s1.heap.objs.size + 1) s1.heap.objs.size, ⟨⟨.none, ge⟩, c1, Nat.succ_ne_self _⟩, fun b hb => ?_, q⟩
    have le : s1.heap.objs.size ≤ b := by rcases two_of hb with z | z <;> rw [z] <;> first | exact Nat.le_add_right _ _ | exact Nat.le_refl _
    exact I1.fpOk le (I1.hok.fresh le)
theorem walks_en {K : PySem.W.Frag} {k : Kd} {p : Addr} {vs : List V} {ds : List D} : Walks K (ItE K k p) (enumD ds) (fun H => SQ K k H p vs ∧ RepL K H vs ds ∧ (k = .l → FzL K H p vs)) where
  stay := fun H H' ⟨h, r, f⟩ e => by
    refine ⟨?_, r.ext e, fun z => e.fzl (f z)⟩
    cases k with
    | l => exact (e.fzl (f rfl)).sql
    | t => exact e.sqt h
  go := fun i H ⟨h, r, _⟩ hi => by
    unfold enumD at hi
    rw [List.length_mapIdx, ← r.length] at hi
    exact ⟨vs, vs[i]'hi, h, List.getElem?_eq_getElem _⟩
  yld := fun i H x H' d ⟨h, r, _⟩ ed ⟨T, u, ex, hT, eH, f⟩ => by
    subst ex eH
    unfold enumD at ed
    rw [List.getElem?_mapIdx] at ed
    cases e1 : ds[i]? with
    | none => rw [e1] at ed; cases ed
    | some q =>
      rw [e1] at ed
      cases ed
      obtain ⟨v, a1, a2⟩ := r.get e1
      have := f vs h
      rw [a1] at this
      cases this
      exact ⟨Ext.new hT, .tup (.of upd_same) (.cons (.int _) (.cons (a2.ext (Ext.new hT)) .nil)), fun _ r => r.new hT, fun c zs e => by rw [upd_ne (ne_of_none e hT)]; exact e⟩
  stop := fun i H ⟨h, r, _⟩ hi => by
    unfold enumD at hi
    rw [List.length_mapIdx, ← r.length] at hi
    exact ⟨vs, h, hi⟩
def wEnum (wa : WA) : WI := fun env S P X => wa env S (fun ds S' => match ds with
  | [d] => match fixOf d with
    | some ds => P (enumD ds) S'
    | none => False
  | _ => False) X
theorem ii_enum {X : Cx} {W : WX} {a : Expr} {was : WA} {p pos tpos : Pos} {elts : List Expr} {kk : Nat} (hg : Gl X "enumerate") (hm : X.mg "enumerate" = none) (ha : IA X W [a] was) (hs : starEach [a] X.env = [(false, eval a X.env)]) : II X W (.Tuple elts kk tpos) (.Call (.Name "enumerate" p) [a] [] pos) (wEnum was) := by
  refine (pi_en hg hm ha hs).of fun σ H R ⟨env, S, P, x, re, rs, h, hx, hq⟩ => ?_
  refine ⟨env, S, _, x, re, rs, h, fun ds S' vs H' p' _ e1 r s => ?_, hx⟩
  dsimp only at p'
  split at p'
  · rename_i d
    split at p'
    · rename_i as e2
      obtain ⟨v, rfl, r1⟩ := rl1 r
      obtain ⟨k1, q1, xs, rfl, s1, t1, f1⟩ := fix_rep r1 e2
      exact ⟨k1, q1, xs, rfl, s1, hq _ S' _ H' _ p' e1 s ⟨s1, t1, f1⟩ walks_en⟩
    · exact p'.elim
  · exact p'.elim
end PL
/-! t[:0:-1] of a tuple; xs.index(y) of a list -/
namespace PL
open PySem PySem.Spec PyProof.Rows HT L2
section
variable {prog : Program} {w : World} {A : Around} {E : Value → Shared → Prop} {s : Shared}
theorem tail_places (n : Nat) (h : 1 ≤ n) : Builtin.Slice.slicePlaces ((n : Int) - 1) 0 (-1) = n - 1 := by
  unfold Builtin.Slice.slicePlaces
  have h1 : ¬ ((-1 : Int) > 0) := by omega
  simp only [h1, if_false]
  have h2 : (-(-1 : Int)) = 1 := rfl
  rw [h2, Int.ediv_one]
  split <;> omega
theorem tail_adjust (n : Nat) (h : 1 ≤ n) : Builtin.Slice.sliceAdjust none (some 0) (-1) (n : Int) = ((n : Int) - 1, 0) := by
  unfold Builtin.Slice.sliceAdjust
  have h1 : ((-1 : Int) < 0) := by omega
  have h2 : ¬ ((0 : Int) < 0) := by omega
  simp only [h1, h2, if_true, if_false]
  refine Prod.ext rfl ?_
  show min (0 : Int) ((n : Int) - 1) = 0
  omega
theorem tail_pick (x : Value) (xs : List Value) : ((List.range xs.length).filterMap fun (m : Nat) => (x :: xs).toArray[(((x :: xs).length : Int) - 1 + (m : Int) * (-1)).toNat]?) = xs.reverse := by
  have h : ∀ k, k ≤ xs.length → ((List.range k).filterMap fun (m : Nat) => (x :: xs).toArray[(((x :: xs).length : Int) - 1 + (m : Int) * (-1)).toNat]?) = xs.reverse.take k := by
    intro k
    induction k with
    | zero => intro _; rfl
    | succ k ih =>
      intro hk
      rw [List.range_succ, List.filterMap_append, ih (by omega), List.take_succ]
      congr 1
      have e : (((x :: xs).length : Int) - 1 + (k : Int) * (-1)).toNat = (xs.length - 1 - k) + 1 := by rw [List.length_cons]; omega
      rw [List.getElem?_reverse (by omega)]
      simp only [List.filterMap_cons, List.filterMap_nil, e, List.getElem?_toArray, List.getElem?_cons_succ]
      cases xs[xs.length - 1 - k]? <;> rfl
  have := h xs.length (Nat.le_refl _)
  rw [this, ← List.length_reverse, List.take_length]
theorem tail_applied {sl : Addr} {t t0 : Tok} {n : Nat} {Q : Int × Int × Nat → Shared → Prop} (hn : 1 ≤ n) (hs : s.heap.IsSliceOf sl .none (.int 0 t0) (.int (-1) t))
    (h : Q ((n : Int) - 1, -1, n - 1) s) : wpAny (model prog w) A (Builtin.Slice.sliceApplied (.ref sl) (pure (n : Int))) Q E s := by
  obtain ⟨os, hos, hcs, hds⟩ := id hs
  unfold Builtin.Slice.sliceApplied Builtin.Slice.sliceFields
  refine wpAny_bind (wpAny_bind (wpAny_field hos hds (x := .none) rfl (wpAny_bind (wpAny_field hos hds (x := .int 0 t0) rfl (wpAny_bind (wpAny_field hos hds (x := .int (-1) t) rfl (wpAny_pure ?_)))))))
  refine wpAny_bind (slicePart_int ?_)
  show wpAny _ _ (if ((-1 : Int) == 0) = true then _ else _) _ _ s
  rw [if_neg (by decide)]
  refine wpAny_bind (slicePart_none (wpAny_bind (slicePart_int (wpAny_bind (wpAny_pure ?_)))))
  show wpAny _ _ (let p := Builtin.Slice.sliceAdjust none (some 0) (-1) (n : Int); pure (p.1, (-1 : Int), Builtin.Slice.slicePlaces p.1 p.2 (-1))) _ _ s
  rw [tail_adjust n hn]
  show wpAny _ _ (pure ((n : Int) - 1, (-1 : Int), Builtin.Slice.slicePlaces ((n : Int) - 1) 0 (-1))) _ _ s
  rw [tail_places n hn]
  exact wpAny_pure h
theorem tail_tuple {t sl : Addr} {x : Value} {items : List Value} {u u0 : Tok} {Q : Value → Shared → Prop} (ht : IsTup s.heap t (x :: items).toArray) (hs : s.heap.IsSliceOf sl .none (.int 0 u0) (.int (-1) u))
    (h : Q (.ref s.heap.objs.size) { s with heap := s.heap.push { cls := .type "tuple", data := .seq items.reverse.toArray } }) (hsz : items.length ≤ sizeLine) :
    wpAny (model prog w) A (getItem (.ref t) (.ref sl)) Q E s := by
  have hk : sizeOk (.seq items.reverse.toArray) := by
    show items.reverse.toArray.size ≤ sizeLine
    rw [List.size_toArray, List.length_reverse]; exact hsz
  obtain ⟨os, hos, hcs, hds⟩ := id hs
  have hT : s.TypeIs (.ref sl) "slice" := ⟨os, hos, hcs⟩
  unfold getItem; try with_reducible refine wpAny_holding ?_
  first | refine wpAny_bind (wpAny_pure ?_) | skip
  refine wpAny_bind (wpAny_sequenceKey ht.typeIs (by decide) (wpAny_bind (wpAny_callSpecial?_slot (name := Str.ofString "__getitem__") ht.typeIs PyProof.Rows.slot_tuple_getitem (wpAny_call_entry PyProof.Rows.slot_tuple_getitem ht.typeIs entry_tuple_getitem ?_ (args_tuple_getitem _ _)))))
  show wpAny _ _ (Builtin.Tuple.tupleItemsOf (.ref t) >>= _) _ _ s
  refine wpAny_bind (tupleItemsOf_ ht (wpAny_bind (wpAny_typeOf hT ?_)))
  rw [if_pos (by decide)]
  refine wpAny_bind (tail_applied (n := (x :: items).toArray.size) (by rw [List.size_toArray, List.length_cons]; omega) hs ?_)
  have hno : ¬ ((((((x :: items).toArray.size : Nat) : Int) - 1 == 0 && (-1 : Int) == 1) && (x :: items).toArray.size - 1 == (x :: items).toArray.size) = true) := by
    intro q; simp at q
  show wpAny _ _ (if (((((x :: items).toArray.size : Nat) : Int) - 1 == 0 && (-1 : Int) == 1 && (x :: items).toArray.size - 1 == (x :: items).toArray.size) = true) then _ else _) _ _ s
  rw [if_neg hno]
  have e : ((List.range ((x :: items).toArray.size - 1)).filterMap fun (m : Nat) => (x :: items).toArray[(((x :: items).toArray.size : Int) - 1 + (m : Int) * (-1)).toNat]?).toArray = items.reverse.toArray := by
    rw [List.size_toArray, ← tail_pick x items]
    rfl
  rw [e]
  first
    | exact wpAny_bind (m := Builtin.Tuple.tupleExact _) (wpAny_newObj_type (wpAny_pure ⟨_, rfl, wpAny_pure h⟩) hk)
    | exact wpAny_bind (m := Builtin.Tuple.tupleExact _) (wpAny_newObj_type (wpAny_bind (wpAny_pure (wpAny_pure ⟨_, rfl, wpAny_pure h⟩))) hk)
    | exact wpAny_bind (wpAny_bind (m := Builtin.Tuple.tupleExact _) (wpAny_newObj_type (wpAny_pure (wpAny_pure ⟨_, rfl, wpAny_pure h⟩)) hk))
    | exact wpAny_bind (wpAny_bind (m := Builtin.Tuple.tupleExact _) (wpAny_newObj_type (wpAny_pure ⟨_, rfl, wpAny_pure h⟩) hk))
end
section
variable {X : Cx} {W : WX}
/-- t[:0:-1] of a tuple that is not empty -/
def tTail (K : PySem.W.Frag) (te : TE) : TE := fun σ H Q => te σ H fun x H1 => ∃ a y xs, x = .ref a ∧ SqT K H1 a (y :: xs) ∧ ∀ p, H1 p = none → Q (.ref p) (upd H1 p (.tup xs.reverse))
theorem pe_tail {e : Expr} {te : TE} {k k0 : Nat} {p0 p1 p2 p3 pos : Pos} (he : PE X e te) : PE X (.Subscript e (.Slice none (some (.Constant (.int 0) k0 p0)) (some (.UnaryOp .USub (.Constant (.int 1) k p1) p2)) p3) pos) (tTail X.K te) := by
  refine ⟨fun pins s σ H Q I h => ?_⟩
  refine Subscript_ (thn (he.run pins s σ H _ I h) fun v s1 ⟨x, H1, I1, r1, a, y, xs, ex, hx, q⟩ => ?_); subst ex; cases r1
  have hst : PO X (some (.UnaryOp .USub (.Constant (.int 1) k p1) p2)) (tPart (tUn (rU fun i => .int (-i)) (tC (.int 1)))) := po_some (pe_un un_neg pe_int)
  have hup : PO X (some (.Constant (.int 0) k0 p0)) (tPart (tC (.int 0))) := po_some pe_int
  refine wpAny_Slice (thn (po_none.run pins s1 σ H1 (fun o H2 => o = none ∧ H2 = H1) I1 ⟨rfl, rfl⟩) fun vl s2 ⟨l, H2, I2, pl, el, e2⟩ => ?_); subst el e2
  refine thn (hup.run pins s2 σ H2 (fun o H3 => o = some 0 ∧ H3 = H2) I2 ⟨0, rfl, rfl, rfl⟩) fun vu s3 ⟨u, H3, I3, pu, eu, e3⟩ => ?_; subst eu e3
  refine thn (hst.run pins s3 σ H3 (fun o H4 => o = some (-1) ∧ H4 = H3) I3 ⟨1, rfl, -1, rfl, rfl, rfl⟩) fun vs s4 ⟨o, H4, I4, ps, eo, e4⟩ => ?_; subst eo e4
  have J : Inv X pins σ H4 { s4 with heap := s4.heap.push { cls := .type "slice", data := .fields #[vl, vu, vs] } } := I4.kept (t' := s4.toks) fun b ob q => Heap.get?_push_of_some _ q
  show wpAny (model X.prog X.w) X.A (subscriptTail e (.Slice none (some (.Constant (.int 0) k0 p0)) (some (.UnaryOp .USub (.Constant (.int 1) k p1) p2)) p3) (.ref a) (.ref s4.heap.objs.size)) (EP X pins σ Q) X.xe { s4 with heap := s4.heap.push { cls := .type "slice", data := .fields #[vl, vu, vs] } }
  obtain ⟨its, r, ht, hz⟩ := J.tuple hx
  rw [List.length_cons] at hz
  cases r with
  | cons r0 r =>
    have hlen := Vals.length r
    refine tail_any (ops := [.ref a, .ref s4.heap.objs.size]) ht.typeIs (PyProof.Rows.slot_tuple_getitem.lookup) ?_ (by with_unfolding_all rfl)
    cases pl; cases pu; cases ps
    refine tail_tuple ht (Heap.IsSliceOf.new _ _ _ _) ?_ (by omega)
    exact ⟨.ref _, _, J.laid (t' := s4.toks) (o := .tup xs.reverse) (fun b ob q => Heap.get?_push_of_some _ q) (Nat.le_refl _) ⟨by rw [List.length_reverse]; omega, _, L2.Vals.reverse r, IsTup.new _ _⟩, rfl, q _ (J.hok.fresh (Nat.le_refl _))⟩
def wBack0 (wx : WE) : WE := fun env S P X => wx env S (fun x S' => match x with
  | .tup (_ :: ds) => P (.tup ds.reverse) S'
  | _ => False) X
theorem ie_back0 {e : Expr} {wx : WE} {k k0 : Nat} {p0 p1 p2 p3 pos : Pos} (he : IE X W e wx) : IE X W (.Subscript e (.Slice none (some (.Constant (.int 0) k0 p0)) (some (.UnaryOp .USub (.Constant (.int 1) k p1) p2)) p3) pos) (wBack0 wx) := by
  refine ⟨fun pins s σ H Q I ⟨env, S, P, x, re, rs, hw, hq, hx⟩ => ?_⟩
  refine thn ((pe_tail he).run pins s σ H (fun v H' => ∃ p ds vs H1 S1, v = .ref p ∧ H1 p = none ∧ H' = upd H1 p (.tup vs) ∧ RepL X.K H1 vs ds ∧ RepS X.K H1 S1 ∧ Ext H H1 ∧ P (.tup ds) S1) I
    ⟨env, S, _, x, re, rs, hw, fun d S1 v H1 q e1 r1 s1 => ?_, hx⟩) fun u s1 ⟨v, H', I', rv, p, ds, vs, H1, S1, ev, np, eH, r1, s1', e1, q⟩ => ?_
  · cases d with
    | tup es =>
      cases es with
      | nil => exact q.elim
      | cons z zs =>
        cases r1 with
        | tup h1 t1 =>
          cases t1 with
          | cons t0 t1 => exact ⟨_, _, _, rfl, h1, fun l nl => ⟨l, zs.reverse, _, H1, S1, rfl, nl, rfl, t1.rev, s1, e1, q⟩⟩
    | _ => exact q.elim
  · subst ev; subst eH
    exact ⟨.ref p, _, I', rv, hq _ S1 _ _ q (e1.trans (Ext.new np)) (.tup (.of upd_same) (r1.ext (Ext.new np))) (s1'.new np)⟩
/-! xs.index(y) -/
def oIndex : O2 := fun x y S P => ∃ ds j z, lstOf S x = some ds ∧ okD (res S x) = true ∧ okD (res S y) = true ∧ (toPL ds)[j]? = some z ∧ PyData.eqv z (toP (res S y)) = true ∧
  (∀ m z', m < j → (toPL ds)[m]? = some z' → PyData.eqv z' (toP (res S y)) = false) ∧ P (.int (j : Nat)) S
def wIndex (wo w : WE) : WE := fun env S P X => wo env S (fun x S1 => (∃ ds, lstOf S1 x = some ds) ∧ w env S1 (fun y S2 => oIndex x y S2 P) X) X
theorem ie_index {o e : Expr} {wo wx : WE} {apos cpos : Pos} (hu : X.A.units + 65 < cLine) (ho : IE X W o wo) (he : IE X W e wx) (hbase : attributeBase o "index" X.env (eval o X.env) = eval o X.env) (hline : (apos.endLine == cpos.line) = true)
    (hfew : ((backTo cpos (starEach [e] X.env)).all (fun x => !x.1) && (backToKw cpos (keywordEach [] X.env)).all (fun x => x.1.isSome) && decide ([e].length + ([] : List Keyword).length + (if ([] : List Keyword).isEmpty then 0 else 1) < 30)) = true)
    (hs : starEach [e] X.env = (false, eval e X.env) :: starEach [] X.env) : IE X W (.Call (.Attribute o "index" apos) [e] [] cpos) (wIndex wo wx) := by
  refine (pe_bm PySem.F.plainAttrs_list PySem.F.slot_list_index PySem.F.type_list_index (mt_indexD hu) ho (pa_cons he pa_nil hs) hbase hfew hline hs rfl).of fun σ H Q ⟨env, S, P, x, re, rs, hw, hq, hx⟩ => ?_
  refine ⟨env, S, _, x, re, rs, hw, fun d S1 v H1 q e1 r1 s1 => ⟨?_, env, S1, _, x, re.ext e1, s1, q.2, fun y S2 u H2 q2 e2 r2 s2 => ?_, hx.ext e1⟩, hx⟩
  · obtain ⟨ds, e⟩ := q.1
    obtain ⟨a, vs, rfl, hl, _⟩ := lst_rep r1 s1 e
    exact .inl ⟨rfl, vs, hl⟩
  · obtain ⟨ds, j, z, e, ox, oy, hz, hzj, hno, q3⟩ := q2
    have r1' := r1.ext e2
    obtain ⟨a, vs, rfl, hl, _⟩ := lst_rep r1' s2 e
    obtain ⟨a1, a2⟩ := dp_res r1' s2 ox
    obtain ⟨b1, b2⟩ := dp_res r2 s2 oy
    rw [lst_res e] at a1 a2
    simp only [toP] at a1 a2
    exact ⟨a, u, _, toPL ds, j, z, rfl, rfl, a1, b1, a2, b2, hz, hzj, hno, hq _ _ _ _ q3 (e1.trans e2) (.int _) s2⟩
end
/-! ### objects of a class whose __init__ keeps its two values -/
def spInit (C : Addr) (ks : List Str) : Sp := fun vs H Q _ => ∃ a dx xs, vs = V.ref a :: xs ∧ xs.length = ks.length ∧ H a = some (.ins C dx []) ∧ Q .non (upd H a (.ins C dx (ks.zip xs)))
structure ObjT (P : Program) (w : World) (K : PySem.W.Frag) (mg : Str → Option Value) (base : Heap) (cn : Str) (ks : List Str) (C f : Addr) (fd : FuncData) : Prop where
  nC : PySem.W.nsIn K mainGlobals cn = some (some (.ref C))
  gC : mg cn = some (.ref C)
  cl : Cls K C
  no : ∀ g ∈ ks, NoAttr K C g
  made : Mk K C f
  ini : FnOk P w K mg base CX0 1 f fd ("self" :: ks) (spInit C ks)
  bnd : Binds K fd ("self" :: ks) []
def ObjE (P : Program) (w : World) (K : PySem.W.Frag) (mg : Str → Option Value) (base : Heap) (q : Str × List Str) : Prop := ∃ C f fd, ObjT P w K mg base q.1 q.2 C f fd
def body2 (x y : Str) (p1 p2 p3 p4 q1 q2 q3 q4 : Pos) : List Stmt :=
  [.Assign [.Attribute (.Name "self" p1) x p2] (.Name x p3) p4, .Assign [.Attribute (.Name "self" q1) y q2] (.Name y q3) q4]
theorem init2 {P : Program} {w : World} {K : PySem.W.Frag} {mg : Str → Option Value} {base : Heap} {x y qual : Str} {st : Stmt} {f C : Addr} {fd : FuncData} {p1 p2 p3 p4 q1 q2 q3 q4 : Pos} (F : L2.Fun K "__init__" qual st f fd) (S : FnScope ["self", x, y] ["self", x, y] (defScope st)) (cl : Cls K C) (nx : NoAttr K C x) (ny : NoAttr K C y) (hxy : (y == x) = false)
    (hb : defBody st = body2 x y p1 p2 p3 p4 q1 q2 q3 q4) (dx : (x == ("__debug__" : Str)) = false) (dy : (y == ("__debug__" : Str)) = false) (cx : (x == ("__classdict__" : Str)) = false) (cy : (y == ("__classdict__" : Str)) = false) : FnOk P w K mg base CX0 1 f fd ["self", x, y] (spInit C [x, y]) := by
  refine F.ok S (fun vs H Q E ⟨a, dx, xs, e, hl, _⟩ => by rw [e, List.length_cons, hl]; rfl) fun cdv A outer s H vs Q E hr ⟨a, d, xs, ev, hl, ha, q⟩ => ?_
  have vis : ∀ z ∈ (["self", x, y] : List Str), Vis (cxOf CX0 P w K mg base ["self", x, y] qual (defScope st) f cdv A outer s H E).nox.env.scope z := fun z hz => (S.par z hz).elim .inl fun e => .inr (.inl e)
  match xs, hl with
  | [u, v], _ =>
    subst ev
    rw [hb]
    refine ⟨_, pss_cons (ps_fld (pv 0 rfl (vis _ (by simp)) (by decide)) (pv 1 rfl (vis _ (by simp)) dx cx) rfl) (pss_one (ps_fld (pv 0 rfl (vis _ (by simp)) (by decide)) (pv 2 rfl (vis _ (by simp)) dy cy) rfl)), ?_⟩
    refine ⟨u, rfl, .ref a, rfl, a, C, d, [], rfl, ha, cl, nx, (by decide : 0 < 1000), v, rfl, .ref a, rfl, a, C, d, _, rfl, upd_same, cl, ny, (by simp [putF]), ?_⟩
    show Q .non _
    rw [upd_upd]
    have e : putF y v (putF x u []) = [(x, u), (y, v)] := by
      have hne : ¬ x = y := fun z => by subst z; simp at hxy
      simp [putF, hne, hxy]
    rw [e]
    exact q
section
variable {X : Cx} {W : WX}
/-- cn(..) -/
def wMk (cn : Str) (ks : List Str) (was : WA) : WE := fun env S P X => was env S (fun ds S1 => ds.length = ks.length ∧ P (.obj cn ks ds) S1) X
theorem ie_make {cn : Str} {ks : List Str} {C f : Addr} {fd : FuncData} {e : Expr} {es : List Expr} {was : WA} {p pos : Pos} (O : ObjT X.prog X.w X.K X.mg X.base cn ks C f fd) (hr : Room 2 X.A) (hg : Gl X cn) (hdb : (cn == ("__debug__" : Str)) = false) (ha : IA X W (e :: es) was)
    (he : starEach (e :: es) X.env = (false, eval e X.env) :: starEach es X.env) (hpl : (backTo pos (starEach es X.env)).any (·.1) = false) : IE X W (.Call (.Name cn p) (e :: es) [] pos) (wMk cn ks was) := by
  refine (pe_make (E := fun _ _ _ => False) O.made O.ini hr hg O.gC O.bnd .nil pass0 ha hdb he hpl).of fun σ H Q ⟨env, S, P, x, re, rs, hw, hq, hx⟩ => ?_
  refine ⟨env, S, _, x, re, rs, hw, fun ds S1 vs H1 q l e1 r1 s1 => fun a dx na nd ne => ?_, hx⟩
  have n2 : upd H1 dx (.own a) a = none := by rw [upd_ne (Ne.symm ne)]; exact na
  refine ⟨a, dx, vs, by rw [List.append_nil], by rw [r1.length, q.1], upd_same, rfl, ?_⟩
  rw [upd_upd]
  have x1 : Ext H1 (upd (upd H1 dx (.own a)) a (.ins C dx (ks.zip vs))) := (Ext.new nd).trans (Ext.new n2)
  exact hq _ S1 _ _ q.2 (e1.trans x1) (.obj O.nC upd_same q.1.symm (r1.ext x1)) ((s1.new nd).new n2)
theorem zip_lookup : ∀ {ks : List Str} {xs : List V} {i : Nat} {k : Str} {v : V}, ks.Nodup → ks[i]? = some k → xs[i]? = some v → (ks.zip xs).lookup k = some v
  | [], _, i, k, v, _, h, _ => by simp at h
  | _ :: _, [], i, k, v, _, _, h => by simp at h
  | k0 :: ks, x :: xs, 0, k, v, _, h1, h2 => by
    simp at h1 h2
    subst h1 h2
    rw [List.zip_cons_cons, List.lookup_cons, beq_self_eq_true]
  | k0 :: ks, x :: xs, i + 1, k, v, hn, h1, h2 => by
    rw [List.getElem?_cons_succ] at h1 h2
    have hm : k ∈ ks := List.mem_of_getElem? h1
    have ne : ¬ k = k0 := fun z => (List.nodup_cons.mp hn).1 (z ▸ hm)
    rw [List.zip_cons_cons, List.lookup_cons, beq_false_of_ne ne]
    exact zip_lookup (List.nodup_cons.mp hn).2 h1 h2
/-- e.f, the field at place i of an object of this class -/
def wFld (cn : Str) (ks : List Str) (i : Nat) (w : WE) : WE := fun env S P X => w env S (fun d S1 => match d with
  | .obj c k ds => (c = cn ∧ k = ks) ∧ (match ds[i]? with
    | some y => P y S1
    | none => False)
  | _ => False) X
theorem ie_fld {cn g : Str} {ks : List Str} {C f : Addr} {fd : FuncData} {e : Expr} {w : WE} {i : Nat} {pos : Pos} (O : ObjT X.prog X.w X.K X.mg X.base cn ks C f fd) (hn : ks.Nodup) (hi : ks[i]? = some g) (he : IE X W e w) (hb : attributeBase e g X.env (eval e X.env) = eval e X.env) : IE X W (.Attribute e g pos) (wFld cn ks i w) := by
  refine (pe_fld he hb).of fun σ H Q ⟨env, S, P, x, re, rs, hw, hq, hx⟩ => ⟨env, S, _, x, re, rs, hw, fun d S1 v H1 q e1 r1 s1 => ?_, hx⟩
  cases r1 with
  | @obj a dx C' cn' ks' xs ds h1 h2 h3 h4 =>
    obtain ⟨⟨rfl, rfl⟩, q⟩ := q
    have eC := h1.symm.trans O.nC
    cases eC
    cases ey : ds[i]? with
    | none => simp only [ey] at q
    | some y =>
      simp only [ey] at q
      obtain ⟨u, eu, ru⟩ := h4.get ey
      exact ⟨a, _, dx, _, u, rfl, h2, O.cl, O.no g (List.mem_of_getElem? hi), zip_lookup hn hi eu, hq _ S1 _ _ q e1 ru s1⟩
  | _ => exact q.elim
end
section
variable {X : Cx}
/-! sorted(xs): whole numbers, or tuples of them -/
def leD : D → D → Bool := PySem.W.dataLe false toP
def srtI (ds : List D) : Prop := ∃ ns : List Int, ds = ns.map D.int
def srtT (ds : List D) : Prop := ∃ rs : List (List Int), (∀ r ∈ rs, r ≠ []) ∧ ds = rs.map fun r => .tup (r.map D.int)
def oSorted : ON := fun xs S P => match xs with
  | [d] => ∃ ds, lstOf S d = some ds ∧ (srtI ds ∨ srtT ds) ∧ P (.lst (ds.mergeSort leD)) S
  | _ => False
theorem each_of {K : PySem.W.Frag} {H : Hp} : ∀ {vs : List V} {ds : List D} {its : List Value}, RepL K H vs ds → Vals vs its → PySem.W.EachIs (fun (u : Value) (b : V × D) => RelV b.1 u ∧ Rep K H b.1 b.2) its (vs.zip ds)
  | _, _, _, .nil, .nil => .nil
  | _, _, _, .cons r t, .cons q s => .cons ⟨q, r⟩ (each_of t s)
theorem each_back {K : PySem.W.Frag} {H : Hp} : ∀ {out : List Value} {bs : List (V × D)}, PySem.W.EachIs (fun (u : Value) (b : V × D) => RelV b.1 u ∧ Rep K H b.1 b.2) out bs → Vals (bs.map Prod.fst) out ∧ RepL K H (bs.map Prod.fst) (bs.map Prod.snd)
  | _, _, .nil => ⟨.nil, .nil⟩
  | _, _, .cons h t => let ⟨a, b⟩ := each_back t; ⟨.cons h.1 a, .cons h.2 b⟩
theorem zip_snd {vs : List V} {ds : List D} (h : vs.length = ds.length) : (vs.zip ds).map Prod.snd = ds := by
  induction vs generalizing ds with
  | nil => cases ds with
    | nil => rfl
    | cons d ds => cases h
  | cons v vs ih => cases ds with
    | nil => cases h
    | cons d ds => rw [List.zip_cons_cons, List.map_cons, ih (by simpa using h)]
theorem toPL_int (ns : List Int) : toPL (ns.map D.int) = ns.map PyData.int := by
  induction ns with
  | nil => rfl
  | cons n ns ih => simp [toPL, toP, ih]
theorem srt_form {ds : List D} (h : srtI ds ∨ srtT ds) : (∀ d ∈ ds, noref d = true ∧ (toP d).depth ≤ 1) ∧ PySem.W.AllAlike (ds.map toP) ∧ PySem.W.Sortable (ds.map toP) := by
  rcases h with ⟨ns, rfl⟩ | ⟨rs, hne, rfl⟩
  · have e : (ns.map D.int).map toP = ns.map PyData.int := by rw [List.map_map]; rfl
    rw [e]
    refine ⟨fun d hd => ?_, PySem.W.AllAlike.of fun b b' => by simp [PySem.W.alike], PySem.W.Sortable.others fun b => ⟨(fun z => by cases z), fun _ z => by cases z⟩⟩
    obtain ⟨n, _, rfl⟩ := List.mem_map.mp hd
    exact ⟨rfl, by simp [toP, PyData.depth]⟩
  · have e : (rs.map fun r => D.tup (r.map D.int)).map toP = rs.map fun r => PyData.tuple (r.map PyData.int) := by
      rw [List.map_map]
      refine List.map_congr_left fun r _ => ?_
      show PyData.tuple (toPL (r.map D.int)) = _
      rw [toPL_int]
    rw [e]
    have nr : ∀ r : List Int, norefL (r.map D.int) = true := fun r => by
      induction r with
      | nil => rfl
      | cons n r ih => simp [norefL, noref, ih]
    refine ⟨fun d hd => ?_, PySem.W.AllAlike.of fun b b' => by show PySem.W.alike (.tuple _) (.tuple _) = true; simp only [PySem.W.alike]; exact PySem.W.alike_ints b b', .inl fun d hd => ?_⟩
    · obtain ⟨r, _, rfl⟩ := List.mem_map.mp hd
      refine ⟨nr r, ?_⟩
      show (PyData.tuple (toPL (r.map D.int))).depth ≤ 1
      rw [toPL_int]
      simp only [PyData.depth, PySem.W.depth_ints]
      omega
    · obtain ⟨r, hr, rfl⟩ := List.mem_map.mp hd
      cases r with
      | nil => exact absurd rfl (hne _ hr)
      | cons n r => exact ⟨_, _, rfl⟩
theorem n_sorted (hu : X.A.units + 65 < cLine) : DN X (fun us => call (.builtin "sorted") us) oSorted := by
  intro pins s σ H S xs xvs us P I rv r rs h Q hq
  match xs, h with
  | [d], ⟨ds, e, hs, p⟩ =>
    obtain ⟨v, rfl, r1⟩ := rl1 r
    obtain ⟨a, vs, rfl, hl, rl⟩ := lst_rep r1 rs e
    obtain ⟨its, rt, hL, hz⟩ := I.list hl
    rw [Vals.ref1 rv]
    obtain ⟨h1, h2, h3⟩ := srt_form hs
    have el := rl.length
    have es : (vs.zip ds).map (fun b => toP b.2) = ds.map toP := by
      rw [show (fun b : V × D => toP b.2) = toP ∘ Prod.snd from rfl, ← List.map_map, zip_snd el]
    have ea := each_of rl rt
    have lz : (vs.zip ds).length = ds.length := by rw [List.length_zip, el]; omega
    refine PySem.W.sorted_data (enc := fun b : V × D => toP b.2) (bs := vs.zip ds) hL.isList ea ?_ (by rw [es]; exact h2) (by rw [es]; exact h3) (by rw [lz, ← el]; exact hz) (fun b hb => ?_) fun out hlen ho => ?_
    · refine (PySem.W.each_mem ea).mono fun u b ⟨⟨q1, q2⟩, hb⟩ => ?_
      have hd : b.2 ∈ ds := by
        have := List.mem_map_of_mem (f := Prod.snd) hb
        rwa [zip_snd el] at this
      exact Dp.reads I (toP b.2) b.1 u (dp_of q2 (h1 _ hd).1) q1
    · have hd : b.2 ∈ ds := by
        have := List.mem_map_of_mem (f := Prod.snd) hb
        rwa [zip_snd el] at this
      have := (h1 _ hd).2
      omega
    · obtain ⟨b1, b2⟩ := each_back ho
      have em : ((vs.zip ds).mergeSort (PySem.W.dataLe false fun b : V × D => toP b.2)).map Prod.snd = ds.mergeSort leD := by
        rw [List.map_mergeSort (r := PySem.W.dataLe false fun b : V × D => toP b.2) (s := leD) (f := Prod.snd) fun _ _ _ _ => rfl, zip_snd el]
      rw [em] at b2
      obtain ⟨ep, he⟩ := PyProof.Rows.sortedAll_at s.heap its out.toArray
      have lo : (((vs.zip ds).mergeSort (PySem.W.dataLe false fun b : V × D => toP b.2)).map Prod.fst).length ≤ sizeLine := by
        rw [List.length_map, List.length_mergeSort, lz, ← el]; exact hz
      have J := I.laid (t' := s.toks) (a := s.heap.objs.size + 1) (o := .lst _) (fun _ _ => PyProof.Rows.sortedAll_old) (Nat.le_succ _) ⟨lo, out, ep, b1, he⟩
      have nf := I.hok.fresh (Nat.le_succ s.heap.objs.size)
      obtain ⟨o, J2⟩ := freeze J upd_same
      rw [upd_upd] at J2
      exact ⟨.ref _, _, J2, rfl, hq _ S _ _ p (Ext.new nf) (.lst (.inl ⟨o, upd_same⟩) (b2.ext (Ext.new nf))) (rs.new nf)⟩
end
/-! ### == of two such objects that hold the same data -/
mutual
theorem eqv_sf : ∀ d : D, PyData.eqv (toP d) (toP d) = true
  | .non => by simp [toP, PyData.eqv]
  | .bl b => by simp [toP, PyData.eqv]
  | .int i => by simp [toP, PyData.eqv]
  | .str x => by simp [toP, PyData.eqv]
  | .ref a => by simp [toP, PyData.eqv]
  | .obj _ _ _ => by simp [toP, PyData.eqv]
  | .tup ds => by simp only [toP, PyData.eqv]; exact eqvL_sf ds
  | .lst ds => by simp only [toP, PyData.eqv]; exact eqvL_sf ds
theorem eqvL_sf : ∀ ds : List D, PyData.eqvAll (toPL ds) (toPL ds) = true
  | [] => by simp [toPL, PyData.eqvAll]
  | d :: ds => by simp only [toPL, PyData.eqvAll, Bool.and_eq_true]; exact ⟨eqv_sf d, eqvL_sf ds⟩
end
def EqR (K : PySem.W.Frag) (C : Addr) (ks : List Str) (a b : Addr) (H : Hp) : Prop := ∃ dx dy xs ys ds, H a = some (.ins C dx (ks.zip xs)) ∧ H b = some (.ins C dy (ks.zip ys)) ∧ ks.length = ds.length ∧ RepL K H xs ds ∧ RepL K H ys ds ∧ ∀ d ∈ ds, okD d = true
def bodyEq (cn x y : Str) (a1 a2 a3 a4 b1 b2 b3 b4 b5 c1 c2 c3 c4 c5 e1 e2 : Pos) : List Stmt :=
  [.Return (some (.BoolOp .And [.Call (.Name "isinstance" a1) [.Name "other" a2, .Name cn a3] [] a4, .Compare (.Attribute (.Name "self" b1) x b2) [.Eq] [.Attribute (.Name "other" b3) x b4] b5, .Compare (.Attribute (.Name "self" c1) y c2) [.Eq] [.Attribute (.Name "other" c3) y c4] c5] e1)) e2]
theorem eq2_ok {P : Program} {w : World} {K : PySem.W.Frag} {mg : Str → Option Value} {base : Heap} {cn x y qual : Str} {st : Stmt} {f C : Addr} {fd : FuncData} {a1 a2 a3 a4 b1 b2 b3 b4 b5 c1 c2 c3 c4 c5 e1 e2 : Pos} (F : L2.Fun K "__eq__" qual st f fd) (S : FnScope ["self", "other"] ["self", "other"] (defScope st))
    (ic : C8.InsC K C) (nx : NoAttr K C x) (ny : NoAttr K C y) (hxy : (y == x) = false) (gC : mg cn = some (.ref C)) (gi : mg "isinstance" = none) (g1 : (defScope st).names.lookup ("isinstance" : Str) = some .globalImplicit) (g2 : (defScope st).names.lookup cn = some .globalImplicit) (dc : (cn == ("__debug__" : Str)) = false)
    (hb : defBody st = bodyEq cn x y a1 a2 a3 a4 b1 b2 b3 b4 b5 c1 c2 c3 c4 c5 e1 e2) : FnOk P w K mg base CX0 1 f fd ["self", "other"] (spEq (EqR K C [x, y])) := by
  refine F.ok S (fun vs H Q E ⟨a, b, e, _⟩ => by rw [e]; rfl) fun cdv A outer s H vs Q E hr ⟨a, b, ev, ⟨dx, dy, xs, ys, ds, ha, hb', hl, rx, ry, ok⟩, q⟩ => ?_
  subst ev
  have hne : ¬ y = x := fun z => by subst z; simp at hxy
  have hne2 : ¬ x = y := fun z => hne z.symm
  have lk : ∀ u v : V, ([x, y].zip [u, v]).lookup x = some u ∧ ([x, y].zip [u, v]).lookup y = some v := fun u v => by
    refine ⟨by simp [List.lookup], ?_⟩
    show List.lookup y [(x, u), (y, v)] = some v
    rw [List.lookup_cons, beq_false_of_ne hne, List.lookup_cons, beq_self_eq_true]
  match ds, hl with
  | [d1, d2], _ =>
    cases rx with
    | cons r1 t1 =>
      cases t1 with
      | cons r2 t2 =>
        cases t2
        cases ry with
        | cons s1 t3 =>
          cases t3 with
          | cons s2 t4 =>
            cases t4
            rename_i u1 u2 v1 v2
            have o1 := ok d1 (by simp)
            have o2 := ok d2 (by simp)
            have sp : ∀ {d : D}, okD d = true → noref d = true ∧ SeqAt.shaped (toP d) = true := fun h => Bool.and_eq_true_iff.mp h
            have vis : ∀ z ∈ (["self", "other"] : List Str), Vis (cxOf CX0 P w K mg base ["self", "other"] qual (defScope st) f cdv A outer s H E).nox.env.scope z := fun z hz => (S.par z hz).elim .inl fun e => .inr (.inl e)
            have hu : (cxOf CX0 P w K mg base ["self", "other"] qual (defScope st) f cdv A outer s H E).nox.A.units + 64 < cLine := by
              have := hr.un
              show (A.deeper _).units + 64 < cLine
              omega
            rw [hb]
            refine ⟨_, pss_one (ps_ret (pe_and (pe_callB (id := "isinstance") (C8.call_isC ic) g1 gi PyProof.Rows.Boot.«isinstance» (pa_cons (pv 1 rfl (vis _ (by simp)) (by decide) (by decide)) (pa_cons (C8.pe_gc (v := V.ref C) g2 ⟨.ref C, gC, rfl⟩ dc) pa_nil rfl) rfl) (by decide) (by decide) rfl rfl)
              (pe_and (pe_cmpR (op_eqD hu) (pe_fld (pv 0 rfl (vis _ (by simp)) (by decide) (by decide)) rfl) (pe_fld (pv 1 rfl (vis _ (by simp)) (by decide) (by decide)) rfl) rfl)
              (pe_one (pe_cmpR (op_eqD hu) (pe_fld (pv 0 rfl (vis _ (by simp)) (by decide) (by decide)) rfl) (pe_fld (pv 1 rfl (vis _ (by simp)) (by decide) (by decide)) rfl) rfl))))), ?_⟩
            have ev1 := eqv_sf d1
            have ev2 := eqv_sf d2
            refine ⟨.ref b, rfl, b, dy, _, rfl, hb', true, rfl, ?_⟩
            refine ⟨.ref a, rfl, a, C, dx, _, u1, rfl, ha, ic.cl, nx, (lk u1 u2).1, .ref b, rfl, b, C, dy, _, v1, rfl, hb', ic.cl, nx, (lk v1 v2).1, toP d1, toP d1, dp_of r1 (sp o1).1, dp_of s1 (sp o1).1, (sp o1).2, (sp o1).2, true, by rw [ev1], ?_⟩
            refine ⟨.ref a, rfl, a, C, dx, _, u2, rfl, ha, ic.cl, ny, (lk u1 u2).2, .ref b, rfl, b, C, dy, _, v2, rfl, hb', ic.cl, ny, (lk v1 v2).2, toP d2, toP d2, dp_of r2 (sp o2).1, dp_of s2 (sp o2).1, (sp o2).2, (sp o2).2, ?_⟩
            rw [ev2]
            exact q H fun _ _ h => h
def EqE (P : Program) (w : World) (K : PySem.W.Frag) (mg : Str → Option Value) (base : Heap) (q : Str × List Str) : Prop := ∃ C f fd, PySem.W.nsIn K mainGlobals q.1 = some (some (.ref C)) ∧ FnOk P w K mg base CX0 1 f fd ["self", "other"] (spEq (EqR K C q.2)) ∧
  PySem.W.findIn K (.ref C) "__eq__" = some (some (.ref f)) ∧ PySem.W.isFn K (.ref f) = true ∧ Binds K fd ["self", "other"] []
theorem ext_of {H H' : Hp} (e : L2.Ext H H') : Ext H H' := ⟨fun _ _ h => e _ _ h, fun _ _ _ h => e _ _ h, fun _ _ h => e _ _ h, fun _ _ _ _ h => e _ _ h⟩
section
variable {X : Cx} {W : WX}
/-- a == b, two objects of the class that hold the same -/
def wEqO (cn : Str) (ks : List Str) (u v : WE) : WE := fun env S P X => u env S (fun x S1 => v env S1 (fun y S2 => match x, y with
  | .obj c k ds, .obj c2 k2 es => (c = cn ∧ k = ks ∧ c2 = cn ∧ k2 = ks ∧ es = ds) ∧ (∀ d ∈ ds, okD d = true) ∧ P (.bl true) S2
  | _, _ => False) X) X
theorem ie_eqO {cn : Str} {ks : List Str} {a b : Expr} {u v : WE} {pos : Pos} (O : EqE X.prog X.w X.K X.mg X.base (cn, ks)) (hr : Room 1 X.A) (ha : IE X W a u) (hb : IE X W b v) (hm : behindInMarks .Eq b = false) : IE X W (.Compare a [.Eq] [b] pos) (wEqO cn ks u v) := by
  obtain ⟨C, f, fd, nC, F, h1, h2, h3⟩ := O
  refine (pe_cmpR (op_eqG (rcG_ins F h1 h2 h3 (show Passes CX0 X (fun _ _ _ => False) from pass0)) hr) ha hb hm).of fun σ H Q ⟨env, S, P, x, re, rs, hw, hq, hx⟩ => ?_
  refine ⟨env, S, _, x, re, rs, hw, fun d S1 v1 H1 q e1 r1 s1 => ⟨env, S1, _, x, re.ext e1, s1, q, fun e S2 v2 H2 q2 e2 r2 s2 => ?_, hx.ext e1⟩, hx⟩
  have r1' := r1.ext e2
  cases r1' with
  | @obj a0 dx C0 cn0 ks0 xs ds g1 g2 g3 g4 =>
    cases r2 with
    | @obj a2 dy C2 cn2 ks2 ys es k1 k2 k3 k4 =>
      obtain ⟨⟨rfl, rfl, rfl, rfl, rfl⟩, ok, p⟩ := q2
      cases g1.symm.trans nC
      cases k1.symm.trans nC
      exact ⟨⟨a0, a2, dx, dy, _, _, rfl, rfl, g2, k2, ⟨dx, dy, xs, ys, es, g2, k2, g3, g4, k4, ok⟩⟩, fun H' x' => hq _ S2 _ _ p ((e1.trans e2).trans (ext_of x')) (.bl true) fun c o h => by
        have t := s2 c o h
        cases o with
        | lst ws =>
          obtain ⟨us, q1, q2⟩ := t
          exact ⟨us, x' _ _ q1, q2.ext (ext_of x')⟩
        | oth z =>
          obtain ⟨φ, q1⟩ := RepY.here t
          exact RepY.ext t (ext_of x') ((x' _ _ q1).trans q1.symm)⟩
    | _ => exact q2.elim
  | _ => exact q2.elim
end
end PL
namespace PL
open PySem PySem.Spec L2
/-! ### dicts whose keys are tuples of whole numbers -/
def getK (kvs : List (List Int × D)) (k : List Int) : Option D := (kvs.find? fun p => decide (p.1 = k)).map (·.2)
def putD (kvs : List (List Int × D)) (k : List Int) (v : D) : List (List Int × D) :=
  if (getK kvs k).isSome then kvs.map (fun p => if p.1 = k then (p.1, v) else p) else kvs ++ [(k, v)]
def keyD (k : List Int) : D := .tup (k.map D.int)
theorem getK_pos {p : List Int × D} {r : List (List Int × D)} {k : List Int} (e : p.1 = k) : getK (p :: r) k = some p.2 := by simp [getK, List.find?_cons, e]
theorem getK_neg {p : List Int × D} {r : List (List Int × D)} {k : List Int} (e : ¬ p.1 = k) : getK (p :: r) k = getK r k := by simp [getK, List.find?_cons, e]
section
variable {K : PySem.W.Frag} {H : Hp}
theorem KD.val {kvs : List (List Int × D)} {xs : List (List Int × Addr × Value)} (r : KD K H kvs xs) (k : List Int) :
    (getK kvs k = none ∧ atKey xs k = none) ∨ ∃ d p v, getK kvs k = some d ∧ atKey xs k = some p ∧ RelV v p.2 ∧ Rep K H v d := by
  induction r with
  | nil => exact .inl ⟨rfl, rfl⟩
  | @cons p q ps qs h t ih =>
    obtain ⟨h1, h2, v, h3, h4⟩ := h
    by_cases e : p.1 = k
    · have e' : q.1 = k := h1.symm.trans e
      exact .inr ⟨p.2, q.2, v, getK_pos e, by simp [atKey, List.find?_cons, e'], h3, h4⟩
    · have e' : ¬ q.1 = k := fun z => e (h1.trans z)
      have e2 : atKey (q :: qs) k = atKey qs k := by simp [atKey, List.find?_cons, e']
      rw [getK_neg e, e2]
      exact ih
theorem KD.isSome {kvs : List (List Int × D)} {xs : List (List Int × Addr × Value)} (r : KD K H kvs xs) (k : List Int) : (getK kvs k).isSome = (atKey xs k).isSome := by
  rcases r.val k with ⟨a, b⟩ | ⟨d, p, v, a, b, _⟩ <;> rw [a, b] <;> rfl
theorem KD.length {kvs : List (List Int × D)} {xs : List (List Int × Addr × Value)} (r : KD K H kvs xs) : kvs.length = xs.length := Paired.length r
theorem KD.repl {kvs : List (List Int × D)} {xs : List (List Int × Addr × Value)} (r : KD K H kvs xs) (k : List Int) {y : V} {d : D} {u : Value} (ry : RelV y u) (rd : Rep K H y d) :
    KD K H (kvs.map fun p => if p.1 = k then (p.1, d) else p) (xs.map (putAt k u)) := by
  unfold KD at r ⊢
  induction r with
  | nil => exact .nil
  | @cons p q ps qs h t ih =>
    rw [List.map_cons, List.map_cons]
    refine .cons ?_ ih
    obtain ⟨h1, h2, h3⟩ := h
    unfold putAt
    by_cases e : p.1 = k
    · rw [if_pos e, if_pos (h1.symm.trans e)]; exact ⟨h1, h2, y, ry, rd⟩
    · rw [if_neg e, if_neg (fun z => e (h1.trans z))]; exact ⟨h1, h2, h3⟩
theorem KD.put {kvs : List (List Int × D)} {xs : List (List Int × Addr × Value)} (r : KD K H kvs xs) (k : List Int) {b : Addr} {y : V} {d : D} {u : Value} (hb : SqT K H b (k.map V.int)) (ry : RelV y u) (rd : Rep K H y d) :
    KD K H (putD kvs k d) (storedH xs k b u) := by
  unfold putD storedH
  rw [r.isSome k]
  by_cases q : (atKey xs k).isSome = true
  · rw [if_pos q, if_pos q]; exact r.repl k ry rd
  · rw [if_neg q, if_neg q]; exact Paired.snoc r ⟨rfl, hb, y, ry, rd⟩
theorem putD_len (kvs : List (List Int × D)) (k : List Int) (d : D) : (putD kvs k d).length ≤ kvs.length + 1 := by
  unfold putD
  split
  · rw [List.length_map]; omega
  · rw [List.length_append]; exact Nat.le_refl _
end
section
variable {X : Cx} {pins : List (Addr × Obj)} {σ : St} {H : Hp} {s : Shared}
theorem items_ints {P : Program} {w : World} : ∀ {k : List Int} {us : List Value}, Vals (k.map V.int) us → ItemsAre (intKind P w) k us
  | [], _, .nil => .nil
  | n :: k, _, .cons ⟨tk, e⟩ t => by subst e; exact ItemsAre.cons (intKind_is P w n tk) (items_ints t)
theorem isI (I : Inv X pins σ H s) {c : Addr} {k : List Int} (q : SqT X.K H c (k.map V.int)) : IsTupleKey (intKind X.prog X.w) s.heap k c := by
  obtain ⟨us, rel, ⟨ob, g1, g2, m, g3⟩, _⟩ := I.tuple q
  exact ⟨ob, us.toArray, m, g1, g2, g3, by rw [List.toList_toArray]; exact items_ints rel⟩
theorem dcE_eq : (dcE : List Int × Addr × Value → DictEntry) = entryOfKey (tupleKind (intKind X.prog X.w)) := rfl
theorem KD.dict (I : Inv X pins σ H s) {a : Addr} {kvs : List (List Int × D)} {xs : List (List Int × Addr × Value)} (r : KD X.K H kvs xs) (e : H a = some (dcO a xs)) :
    (a == sysModules) = false ∧ xs.length ≤ sizeLine ∧ s.heap.DictOfH (tupleKind (intKind X.prog X.w)) a xs := by
  obtain ⟨⟨h1, h2, h3, o, es, ep, h4, h5, h6, h7⟩, _⟩ := (show ObjOk X.prog X.w H s.heap a (dcO a xs) from I.hok a _ e)
  refine ⟨h1, h2, o, es, ep, h4, h5, h6, h7, fun x hx => ?_, h3⟩
  have all : ∀ {l : List (List Int × D)} {m : List (List Int × Addr × Value)}, KD X.K H l m → ∀ x ∈ m, (tupleKind (intKind X.prog X.w)).is s.heap x.1 x.2.1 := by
    intro l m q
    induction q with
    | nil => intro x hx; exact nomatch hx
    | @cons p q ps qs hq t ih =>
      intro x hx
      rcases List.mem_cons.mp hx with e | hx
      · subst e
        exact isI I (by rw [← hq.1]; exact hq.2.1)
      · exact ih x hx
  exact all r x hx
theorem dc_ok {P : Program} {w : World} {H' : Hp} {h' : Heap} {a : Addr} {xs : List (List Int × Addr × Value)} (h1 : (a == sysModules) = false) (h2 : xs.length ≤ sizeLine) (d : h'.DictOfH (tupleKind (intKind P w)) a xs) : ObjOk P w H' h' a (dcO a xs) := by
  obtain ⟨o, es, ep, h4, h5, h6, h7, _, h3⟩ := d
  exact ⟨⟨h1, h2, h3, o, es, ep, h4, h5, h6, h7⟩, ⟨o, h4⟩, fun g g' ⟨x1, x2, x3, o', es', ep', x4, x5⟩ k => ⟨x1, x2, x3, o', es', ep', k _ x4, x5⟩⟩
/-- {} -/
def wDNew : WE := fun env S P _ => ∀ p, S p = none → P (.ref p) (sput S p (.oth (.dic [])))
theorem ie_dnew {W : WX} {pos : Pos} : IE X W (.Dict [] [] pos) wDNew := ⟨fun pins s σ H Q I ⟨env, S, P, x, re, rs, h, hq, hx⟩ => by
  have np : H s.heap.objs.size = none := I.hok.fresh (Nat.le_refl _)
  have hb : (s.heap.objs.size == sysModules) = false := beq_eq_false_iff_ne.mpr (Ne.symm (Nat.ne_of_lt I.big))
  have ok : ∀ H' : Hp, ObjOk X.prog X.w H' (s.heap.push { cls := .type "dict", data := .dict #[] }) s.heap.objs.size (dcO s.heap.objs.size []) := fun H' => dc_ok hb (Nat.zero_le _) ⟨_, #[], 0, Heap.get?_push_size _ rfl, ⟨rfl, rfl, rfl⟩, rfl, rfl, (fun _ z => nomatch z), List.nodup_nil⟩
  exact wpAny_Dict_empty ⟨.ref s.heap.objs.size, _, I.laid (a := s.heap.objs.size) (o := dcO s.heap.objs.size []) (t' := s.toks) (fun _ _ q => Heap.get?_push_of_some _ q) (Nat.le_refl _) (ok _), rfl,
    hq _ _ _ _ (h _ (rs.free np)) (Ext.new np) (.ref _) (rs.newY np ⟨[], upd_same, .nil⟩)⟩⟩
/-- d[k], there -/
def oDGet : O2 := fun x y S P => ∃ a kvs k d, x = .ref a ∧ S a = some (.oth (.dic kvs)) ∧ y = keyD k ∧ getK kvs k = some d ∧ P d S
/-- d.get(k, z) -/
def oDGetD (x y z : D) (S : Sto) (P : PD) : Prop := ∃ a kvs k, x = .ref a ∧ S a = some (.oth (.dic kvs)) ∧ y = keyD k ∧ P ((getK kvs k).getD z) S
/-- d[k] = v -/
def oDPut (x y v : D) (S : Sto) (R : Sto → Prop) : Prop := ∃ a kvs k, x = .ref a ∧ S a = some (.oth (.dic kvs)) ∧ y = keyD k ∧ kvs.length < sizeLine ∧ R (sput S a (.oth (.dic (putD kvs k v))))
/-- it is a dict now -/
def isDic (S : Sto) (x : D) : Prop := ∃ a kvs, x = .ref a ∧ S a = some (.oth (.dic kvs))
theorem key_rep {K : PySem.W.Frag} {y : V} {k : List Int} (r : Rep K H y (keyD k)) : ∃ b, y = .ref b ∧ SqT K H b (k.map V.int) := by
  unfold keyD at r
  cases r with
  | tup h l => rw [RepL.ints l] at h; exact ⟨_, rfl, h⟩
variable {W : WX} {o i e f : Expr} {wo wi we wf : WE} {pos apos cpos : Pos}
def wDSub (wo wi : WE) : WE := w2 oDGet wo wi
theorem ie_dsub (hu : X.A.units + 1 < cLine) (ho : IE X W o wo) (hi : IE X W i wi) (hs : NoSl i) : IE X W (.Subscript o i pos) (wDSub wo wi) := by
  refine ⟨fun pins s σ H Q I ⟨env, S, P, x, re, rs, h, hq, hx⟩ => ?_⟩
  refine subD_of PySem.F.slot_dict_getitem.lookup hs (thn (ho.run pins s σ H (fun v1 H1 => ∃ d1 S1, Ext H H1 ∧ Rep X.K H1 v1 d1 ∧ RepS X.K H1 S1 ∧ wi env S1 (fun y S2 => oDGet d1 y S2 P) x) I ⟨env, S, _, x, re, rs, h, fun d1 S1 v1 H1 q e1 r1 s1 => ⟨d1, S1, e1, r1, s1, q⟩, hx⟩) fun u s1 ⟨v1, H1, I1, rv1, d1, S1, e1, r1, s1', q1⟩ => ?_)
  refine thn (hi.run pins s1 σ H1 (fun v2 H2 => ∃ d2 S2, Ext H1 H2 ∧ Rep X.K H2 v2 d2 ∧ RepS X.K H2 S2 ∧ oDGet d1 d2 S2 P) I1 ⟨env, S1, _, x, re.ext e1, s1', q1, fun d2 S2 v2 H2 q e2 r2 s2 => ⟨d2, S2, e2, r2, s2, q⟩, hx.ext e1⟩) fun iv s2 ⟨v2, H2, I2, rv2, d2, S2, e2, r2, s2', a, kvs, k, d, ea, eS, ek, eg, q⟩ => ?_
  subst ea ek
  cases r1
  obtain rfl : u = Value.ref a := rv1
  obtain ⟨b, rfl, hb⟩ := key_rep r2
  obtain rfl : iv = Value.ref b := rv2
  obtain ⟨xs, eH, kd⟩ := s2' a _ eS
  obtain ⟨h1, h2, dd⟩ := kd.dict I2 eH
  refine ⟨dd.typeIs, ?_⟩
  rcases kd.val k with ⟨z, _⟩ | ⟨d', p, v, e3, e4, e5, e6⟩
  · rw [z] at eg; cases eg
  · rw [e3] at eg
    cases eg
    exact wpAny_getItem_heap (tupleKind_room_in1 hu) (isI I2 hb) dd e4 ⟨v, H2, I2.tok _, e5, hq _ _ _ _ q (e1.trans e2) e6 s2'⟩
def wDGet (wo we wf : WE) : WE := fun env S P X => wo env S (fun x S1 => isDic S1 x ∧ we env S1 (fun y S2 => wf env S2 (fun z S3 => oDGetD x y z S3 P) X) X) X
theorem isDic_at (I : Inv X pins σ H s) {S : Sto} {x : D} {v : V} {u : Value} (d : isDic S x) (r : Rep X.K H v x) (ru : RelV v u) (rs : RepS X.K H S) :
    s.TypeIs u "dict" ∧ (∀ b, u = .ref b → ∃ ob, s.heap.get? b = some ob ∧ ob.dict = none) := by
  obtain ⟨a, kvs, rfl, eS⟩ := d
  cases r
  obtain rfl : u = Value.ref a := ru
  obtain ⟨xs, eH, kd⟩ := rs a _ eS
  obtain ⟨_, _, dd⟩ := kd.dict I eH
  refine ⟨dd.typeIs, fun b q => ?_⟩
  cases q
  obtain ⟨ob, _, _, h1, h2, _⟩ := dd
  exact ⟨ob, h1, h2.2.1⟩
theorem ie_dget (hu : X.A.units + 1 < cLine) (ho : IE X W o wo) (he : IE X W e we) (hf : IE X W f wf) (m : M2 X o "get" apos e f cpos) : IE X W (.Call (.Attribute o "get" apos) [e, f] [] cpos) (wDGet wo we wf) := by
  refine ⟨fun pins s σ H Q I ⟨env, S, P, x, re, rs, h, hq, hx⟩ => ?_⟩
  refine wpAny_Call_method m.base m.few m.line PySem.F.plainAttrs_dict PySem.F.slot_dict_get PySem.F.type_dict_get (thn (ho.run pins s σ H (fun v1 H1 => ∃ d1 S1, Ext H H1 ∧ Rep X.K H1 v1 d1 ∧ RepS X.K H1 S1 ∧ isDic S1 d1 ∧ we env S1 (fun y S2 => wf env S2 (fun z S3 => oDGetD d1 y z S3 P) x) x) I ⟨env, S, _, x, re, rs, h, fun d1 S1 v1 H1 q e1 r1 s1 => ⟨d1, S1, e1, r1, s1, q⟩, hx⟩) fun u s1 ⟨v1, H1, I1, rv1, d1, S1, e1, r1, s1', hd, q1⟩ => ?_)
  obtain ⟨t1, t2⟩ := isDic_at I1 hd r1 rv1 s1'
  refine ⟨t1, t2, ?_⟩
  rw [m.trees]
  refine Calls.callWith_builtin rfl (Calls.evalArgs_plain (Calls.spliced_cons (thn (he.run pins s1 σ H1 (fun v2 H2 => ∃ d2 S2, Ext H1 H2 ∧ Rep X.K H2 v2 d2 ∧ RepS X.K H2 S2 ∧ wf env S2 (fun z S3 => oDGetD d1 d2 z S3 P) x) I1 ⟨env, S1, _, x, re.ext e1, s1', q1, fun d2 S2 v2 H2 q e2 r2 s2 => ⟨d2, S2, e2, r2, s2, q⟩, hx.ext e1⟩) fun iv s2 ⟨v2, H2, I2, rv2, d2, S2, e2, r2, s2', q2⟩ => ?_)))
  refine Calls.spliced_cons (thn (hf.run pins s2 σ H2 (fun v3 H3 => ∃ d3 S3, Ext H2 H3 ∧ Rep X.K H3 v3 d3 ∧ RepS X.K H3 S3 ∧ oDGetD d1 d2 d3 S3 P) I2 ⟨env, S2, _, x, (re.ext e1).ext e2, s2', q2, fun d3 S3 v3 H3 q e3 r3 s3 => ⟨d3, S3, e3, r3, s3, q⟩, (hx.ext e1).ext e2⟩) fun fv s3 ⟨v3, H3, I3, rv3, d3, S3, e3, r3, s3', a, kvs, k, ea, eS, ek, q⟩ => Calls.spliced_nil ?_)
  subst ea ek
  cases r1
  obtain rfl : u = Value.ref a := rv1
  obtain ⟨b, rfl, hb⟩ := key_rep (r2.ext e3)
  obtain rfl : iv = Value.ref b := rv2
  obtain ⟨xs, eH, kd⟩ := s3' a _ eS
  obtain ⟨h1, h2, dd⟩ := kd.dict I3 eH
  refine call_meetsIn PySem.F.slot_dict_get dd.typeIs PySem.F.entry_dict_get (PySem.F.args_dict_get_3 _ _ _) (meetsH_dict_get_default (tupleKind (intKind X.prog X.w)) a b h1 fv) ⟨tupleKind_room_in1 hu, k, xs, isI I3 hb, dd, ?_⟩
  rcases kd.val k with ⟨z1, z2⟩ | ⟨d', p, v, z1, z2, e5, e6⟩
  · rw [z1] at q
    rw [z2]
    exact ⟨v3, H3, I3.tok _, rv3, hq _ _ _ _ q ((e1.trans e2).trans e3) r3 s3'⟩
  · rw [z1] at q
    rw [z2]
    exact ⟨v, H3, I3.tok _, e5, hq _ _ _ _ q ((e1.trans e2).trans e3) e6 s3'⟩
/-- the target d[k] -/
def gDSub (wo wi : WE) : WG := fun d env S R X => wo env S (fun o S1 => wi env S1 (fun i S2 => oDPut o i d S2 (fun S3 => R env S3)) X) X
theorem set_dic (hu : X.A.units + 1 < cLine) : PSet X (fun xo xi xv H Q => ∃ do_ di dv S R, Rep X.K H xo do_ ∧ Rep X.K H xi di ∧ Rep X.K H xv dv ∧ RepS X.K H S ∧ oDPut do_ di dv S R ∧ ∀ S' H', R S' → Ext H H' → RepS X.K H' S' → Q H') := by
  intro pins s σ H xo xi xv ov iv u Q I ro ri rv ⟨d1, d2, d3, S, R, r1, r2, r3, rs, ⟨a, kvs, k, ea, eS, ek, hl, q⟩, hq⟩
  subst ea ek
  cases r1
  obtain rfl : ov = Value.ref a := ro
  obtain ⟨b, rfl, hb⟩ := key_rep r2
  obtain rfl : iv = Value.ref b := ri
  obtain ⟨xs, eH, kd⟩ := rs a _ eS
  obtain ⟨h1, h2, dd⟩ := kd.dict I eH
  have kl := kd.length
  refine wpAny_setItem_heap (hsz := h2) (tupleKind_room_in1 hu) (isI I hb) dd fun h' dd' hs => ?_
  have k2 := kd.put k hb rv r3
  have hz : (storedH xs k b u).length ≤ sizeLine := by
    have := k2.length
    have := putD_len kvs k d3
    omega
  have he : ∃ q, h'.get? a = some q := let ⟨q, _, _, hq, _⟩ := dd'; ⟨q, hq⟩
  have J := d_write (t' := s.toks + (tupleKind (intKind X.prog X.w)).draws k) (ob := dcO a (storedH xs k b u)) I (by rw [eH]; exact True.intro) hs he (dc_ok h1 hz dd')
  exact ⟨_, J, hq _ _ q (Ext.putY eH) (rs.putY eH ⟨_, upd_same, k2.ext (Ext.putY eH)⟩)⟩
theorem ig_dsub {l : List Nat} (hu : X.A.units + 1 < cLine) (ho : IE X W o wo) (hi : IE X W i wi) (ha : ∀ v, assign (.Subscript o i pos) X.env v = (do
      let ov ← holding [v] (eval o X.env)
      let iv ← holding [v, ov] (eval i X.env)
      standAt pos
      holding [v, ov, iv] (setItem ov iv v)
      release [v, ov, iv] [])) : IG X W l (.Subscript o i pos) (gDSub wo wi) :=
  (pg_sub ho hi (set_dic hu) ha).of fun v σ H Q ⟨d, env, S, R, x, r, re, rs, h, hq, hx⟩ =>
    ⟨env, S, _, x, re, rs, h, fun d1 S1 v1 H1 p1 e1 r1 s1 => ⟨env, S1, _, x, re.ext e1, s1, p1, fun d2 S2 v2 H2 p2 e2 r2 s2 =>
      ⟨d1, d2, d, S2, _, r1.ext e2, r2, r.ext (e1.trans e2), s2, p2, fun S' H' q e3 s3 => hq _ _ _ _ q ((e1.trans e2).trans e3) (re.ext ((e1.trans e2).trans e3)) s3 (But.refl _ _)⟩, (hx σ (But.refl _ _)).ext e1⟩, hx σ (But.refl _ _)⟩
/-! sorted(d): its keys -/
theorem reads_ints {P : Program} {w : World} {h : Heap} : ∀ {k : List Int} {us : List Value}, ItemsAre (intKind P w) k us → ReadsAll h us (k.map PyData.int) []
  | [], _, .nil => .nil
  | n :: k, _, .cons r t => by
    obtain ⟨tk, rfl⟩ := Value.isInt_shape r
    exact ReadsAll.cons (as := []) (bs := []) (.int n tk) (reads_ints t)
theorem isT_reads {P : Program} {w : World} {h : Heap} {k : List Int} {b : Addr} (r : IsTupleKey (intKind P w) h k b) : Reads h (.ref b) (.tuple (k.map PyData.int)) [] := by
  obtain ⟨o, its, n, h1, h2, h3, h4⟩ := r
  exact .tuple h1 h2 h3 (reads_ints h4)
def keysD (kvs : List (List Int × D)) : List D := (kvs.map fun p => keyD p.1).mergeSort leD
/-- sorted of a dict -/
def oSortD : ON := fun xs S P => match xs with
  | [d] => ∃ a kvs, d = .ref a ∧ S a = some (.oth (.dic kvs)) ∧ (∀ p ∈ kvs, p.1 ≠ []) ∧ P (.lst (keysD kvs)) S
  | _ => False
/-- a new object anywhere free -/
theorem laid_on {h' : Heap} {a : Addr} {o : HO} {t' : Nat} (I : Inv X pins σ H s) (k : ∀ b u, s.heap.get? b = some u → b ≠ a ∧ h'.get? b = some u) (new : ObjOk X.prog X.w (upd H a o) h' a o) :
    Inv X pins σ (upd H a o) { s with heap := h', toks := t' } ∧ H a = none := by
  have hn : H a = none := by
    cases e : H a with
    | none => rfl
    | some u =>
      obtain ⟨ob, q⟩ := objOk_get (I.hok a u e)
      exact absurd rfl (k a ob q).1
  refine ⟨I.un ⟨fun b u q _ _ _ => (k b u q).2, fun b u q _ _ _ => ⟨u.slots, (k b u q).2⟩, fun b u q n _ => by rw [upd_ne (k b u q).1]; exact n, fun b u q _ => ⟨u, (k b u q).2⟩,
    fun b xs q => by rw [upd_ne (ne_of_none q hn)]; exact q, fun b u xs q => by rw [upd_ne (ne_of_none q hn)]; exact q, fun b ps q => ⟨#[], by rw [upd_ne (ne_of_none q hn), q]; simp⟩⟩ fun b u e => ?_, hn⟩
  by_cases hb : b = a
  · subst hb; rw [upd_same] at e; cases e; exact new
  · rw [upd_ne hb] at e
    exact (I.hok b u e).stay (fun c v _ q => (k c v q).2) (fun c q => (upd_ne (ne_of_none q hn)).trans q) fun c xs q => (upd_ne (ne_of_none q hn)).trans q
theorem keys_rep {K : PySem.W.Frag} {kvs : List (List Int × D)} {xs : List (List Int × Addr × Value)} (r : KD K H kvs xs) : RepL K H ((xs.map fun x => x.2.1).map V.ref) (kvs.map fun p => keyD p.1) := by
  unfold KD at r
  induction r with
  | nil => exact .nil
  | cons h t ih => exact .cons (.tup h.2.1 (.of_ints _)) ih
def oSortM (m : Bool) : ON := if m = true then oSortD else oSorted
theorem n_sortD (hc : X.calm = true) (hu : X.A.units + 65 < cLine) : DN X (fun us => call (.builtin "sorted") us) oSortD := by
  intro pins s σ H S xs xvs us P I rv r rs h Q hq
  match xs, h with
  | [d], ⟨a, kvs, ed, eS, hne, p⟩ =>
    subst ed
    obtain ⟨v, rfl, r1⟩ := rl1 r
    cases r1
    rw [Vals.ref1 rv]
    obtain ⟨ks, eH, kd⟩ := rs a _ eS
    obtain ⟨h1, h2, dd⟩ := kd.dict I eH
    obtain ⟨o, es, ep, ho, hx, hdt, he, his, hn⟩ := dd
    have l1 : es.size = ks.length := size_of_entries he
    have kl := kd.length
    refine Calls.call_function_entry PyProof.Rows.kind_sorted PyProof.Rows.plain_sorted PyProof.Rows.entry_sorted (PyProof.Rows.args_sorted1 _) ?_
    unfold Builtin.«sorted»
    refine wpAny_bind (m := checkCount "sorted" 1 1 _) (wpAny_pure ?_)
    refine wpAny_bind (PySem.W.kdu_collect (A := X.A.in1) (kdl_raw h1 hx hdt) (I.ok.hd hc) ho (by omega) fun h' tk acc kp it => ?_)
    have ea : acc.toList = (ks.map fun x => x.2.1).map Value.ref := by
      have hl : acc.toList.length = ks.length := by rw [Array.length_toList, it.1]; exact l1
      rw [List.map_map]
      refine List.ext_getElem? fun j => ?_
      rw [List.getElem?_map]
      cases hj : acc.toList[j]? with
      | none =>
        have g1 := List.getElem?_eq_none_iff.mp hj
        rw [List.getElem?_eq_none (by omega)]; rfl
      | some v =>
        obtain ⟨en, hen, hv⟩ := it.2 j v (by rw [← Array.getElem?_toList]; exact hj)
        have qe := entry_at he j
        rw [hen] at qe
        cases hb : ks[j]? with
        | none => rw [hb] at qe; exact nomatch (show some en = none from qe)
        | some b =>
          rw [hb] at qe
          cases Option.some.inj qe
          rw [hv]; rfl
    have rvv : Vals ((ks.map fun x => x.2.1).map V.ref) acc.toList := by rw [ea]; exact vals_refs _
    have rl : RepL X.K H ((ks.map fun x => x.2.1).map V.ref) (kvs.map fun p => keyD p.1) := keys_rep kd
    have hlen : acc.toList.length = ks.length := by rw [ea, List.length_map, List.length_map]
    refine wpAny_bind (wpAny_newList ?_ (by omega))
    have old : ∀ c o, s.heap.get? c = some o → c ≠ h'.objs.size ∧ (h'.push { cls := .type "list", data := .seq acc.toList.toArray }).get? c = some o := fun c o q =>
      ⟨Nat.ne_of_lt (Heap.lt_size (kp c o q)), Heap.get?_push_of_some _ (kp c o q)⟩
    have hs : srtT (kvs.map fun p => keyD p.1) := ⟨kvs.map (·.1), fun r hr => by
      obtain ⟨p, hp, rfl⟩ := List.mem_map.mp hr
      exact hne p hp, by rw [List.map_map]; rfl⟩
    obtain ⟨f1, f2, f3⟩ := srt_form (.inr hs)
    have el := rl.length
    have ez := zip_snd el
    have es' : (((ks.map fun x => x.2.1).map V.ref).zip (kvs.map fun p => keyD p.1)).map (fun b => toP b.2) = (kvs.map fun p => keyD p.1).map toP := by
      rw [show (fun b : V × D => toP b.2) = toP ∘ Prod.snd from rfl, ← List.map_map, ez]
    have each := each_of rl rvv
    have isK : ∀ b ∈ ((ks.map fun x => x.2.1).map V.ref).zip (kvs.map fun p => keyD p.1), ∃ k, b.2 = keyD k := fun b hb => by
      have q := List.mem_map_of_mem (f := Prod.snd) hb
      rw [ez] at q
      obtain ⟨p, _, q⟩ := List.mem_map.mp q
      exact ⟨p.1, q.symm⟩
    have lz : (((ks.map fun x => x.2.1).map V.ref).zip (kvs.map fun p => keyD p.1)).length = ks.length := by simp [kl]
    have dep : (X.A.in1).units = X.A.units + 1 := rfl
    have step := PySem.W.list_sort_data (prog := X.prog) (w := X.w) (A := X.A.in1) (E := X.xe) (s := { s with heap := h'.push { cls := .type "list", data := .seq acc.toList.toArray }, toks := tk }) (a := h'.objs.size) (n := 0) (vs := acc.toList)
      (Q := fun _ s' => EP X pins σ Q (.ref h'.objs.size) s') (enc := fun b : V × D => toP b.2) (Heap.get?_push_size _ rfl) each ?_ (by rw [es']; exact f2) (by rw [es']; exact f3) (by rw [lz]; exact h2) (fun b hb => ?_) fun out hlen2 ho => ?_
    · refine wpAny_bind (wpAny_holding (wpAny_mono step (fun _ s2 z => wpAny_pure ?_) fun _ _ z => z))
      exact ⟨_, rfl, z⟩
    · refine (PySem.W.each_mem each).mono fun u b ⟨⟨q1, q2⟩, hb⟩ => ?_
      obtain ⟨k, ek⟩ := isK b hb
      rw [ek] at q2 ⊢
      obtain ⟨c, ec, hc2⟩ := key_rep q2
      rw [ec] at q1
      obtain rfl : u = Value.ref c := q1
      refine ⟨[], ?_, by simp⟩
      have rr := isT_reads (isI I hc2)
      rw [← toPL_int] at rr
      exact PyProof.Rows.Reads.keeps (fun c o q => (old c o q).2) rr
    · obtain ⟨k, ek⟩ := isK b hb
      have := (f1 b.2 (by have q := List.mem_map_of_mem (f := Prod.snd) hb; rwa [ez] at q)).2
      omega
    · obtain ⟨b1, b2⟩ := each_back ho
      have em : ((((ks.map fun x => x.2.1).map V.ref).zip (kvs.map fun p => keyD p.1)).mergeSort (PySem.W.dataLe false fun b : V × D => toP b.2)).map Prod.snd = keysD kvs := by
        unfold keysD
        rw [List.map_mergeSort (r := PySem.W.dataLe false fun b : V × D => toP b.2) (s := leD) (f := Prod.snd) fun _ _ _ _ => rfl, ez]
      rw [em] at b2
      have at0 : (h'.push { cls := .type "list", data := .seq acc.toList.toArray }).get? h'.objs.size = some (PyProof.Rows.seqObj "list" acc.toList.toArray 0) := Heap.get?_push_size _ rfl
      obtain ⟨ep2, he2⟩ := PyProof.Rows.sortedHeap_at (vs := acc.toList) (out := out.toArray) at0
      have lo : (((((ks.map fun x => x.2.1).map V.ref).zip (kvs.map fun p => keyD p.1)).mergeSort (PySem.W.dataLe false fun b : V × D => toP b.2)).map Prod.fst).length ≤ sizeLine := by
        rw [List.length_map, List.length_mergeSort, lz]; exact h2
      have J := laid_on (t' := tk) I (h' := PyProof.Rows.sortedHeap (h'.push { cls := .type "list", data := .seq acc.toList.toArray }) h'.objs.size acc.toList out.toArray) (a := h'.objs.size) (o := .lst _) (fun c o q => ⟨(old c o q).1, (PyProof.Rows.sortedHeap_old (old c o q).1 (Heap.lt_size (old c o q).2)).trans (old c o q).2⟩) ⟨lo, out, ep2, b1, he2⟩
      obtain ⟨J1, nf⟩ := J
      obtain ⟨ob, J2⟩ := freeze J1 upd_same
      rw [upd_upd] at J2
      exact ⟨.ref _, _, J2, rfl, hq _ S _ _ p (Ext.new nf) (.lst (.inl ⟨ob, upd_same⟩) (b2.ext (Ext.new nf))) (rs.new nf)⟩
/-! sorted(set(xs)): tuples of whole numbers, each once -/
def wSortSet (we : WE) : WE := fun env S P X => we env S (fun d S1 => ∃ (ks : List (List Int)) (n : Nat) (B : Int), lstOf S1 d = some (ks.map keyD) ∧ ks.length < 64 ∧ 1 ≤ n ∧ (∀ k ∈ ks, k.length = n ∧ ∀ x ∈ k, 0 ≤ x ∧ x < B) ∧
  ∀ ks' : List (List Int), ks'.Nodup → (∀ k, k ∈ ks' ↔ k ∈ ks) → P (.lst (ks'.map keyD)) S1) X
theorem keys_at {K : PySem.W.Frag} : ∀ {vs : List V} {ks : List (List Int)}, RepL K H vs (ks.map keyD) → ∃ L : List (Addr × List Int), vs = L.map (fun p => V.ref p.1) ∧ L.map (·.2) = ks ∧ ∀ p ∈ L, SqT K H p.1 (p.2.map V.int)
  | [], [], _ => ⟨[], rfl, rfl, fun p hp => by cases hp⟩
  | v :: vs, k :: ks, .cons r t => by
    obtain ⟨L, h1, h2, h3⟩ := keys_at t
    obtain ⟨b, e, hb⟩ := key_rep r
    refine ⟨(b, k) :: L, by rw [e, h1]; rfl, by rw [← h2]; rfl, fun p hp => ?_⟩
    rcases List.mem_cons.mp hp with rfl | hp
    · exact hb
    · exact h3 p hp
theorem keys_to {K : PySem.W.Frag} : ∀ {L : List (Addr × List Int)}, (∀ p ∈ L, SqT K H p.1 (p.2.map V.int)) → RepL K H (L.map fun p => V.ref p.1) ((L.map (·.2)).map keyD)
  | [], _ => .nil
  | p :: L, h => .cons (.tup (h p List.mem_cons_self) (.of_ints _)) (keys_to fun q hq => h q (List.mem_cons_of_mem _ hq))
theorem ie_sortSet {p1 p2 c1 c2 : Pos} (hc : X.calm = true) (hu : X.A.units + 65 < cLine) (g1 : Gl X "sorted") (m1 : X.mg "sorted" = none) (g2 : Gl X "set") (m2 : X.mg "set" = none) (he : IE X W e we) (hs : starEach [e] X.env = (false, eval e X.env) :: starEach [] X.env) :
    IE X W (.Call (.Name "sorted" p1) [.Call (.Name "set" p2) [e] [] c2] [] c1) (wSortSet we) := by
  have a1 : PA X [e] (tCons (tE X.K X.mg W we) tNil) := pa_cons he pa_nil hs
  have s1 := pe_callTy (cr_setOfT hc (by omega)) (p := p2) (pos := c2) g2 m2 (by first | exact PyProof.Rows.Boot.«set» | decide +kernel) a1 (by decide) (by decide) hs rfl
  have a2 : PA X [.Call (.Name "set" p2) [e] [] c2] (tCons (tCB (rSetOfT X.K X.prog X.w) (tCons (tE X.K X.mg W we) tNil)) tNil) := pa_cons s1 pa_nil rfl
  have s2 := pe_callB (cr_sortedT hc) (p := p1) (pos := c1) g1 m1 PyProof.Rows.Boot.«sorted» a2 (by decide) (by decide) rfl rfl
  refine ⟨fun pins s σ H Q I ⟨env, S, P, x, re, rs, h, hq, hx⟩ => ?_⟩
  refine thn (s2.run pins s σ H (fun v H' => ∃ (p : Addr) (L : List (Addr × List Int)) (H2 : Hp) (S2 : Sto), v = .ref p ∧ H2 p = none ∧ H' = upd H2 p (.lst (L.map fun q : Addr × List Int => V.ref q.1)) ∧ (∀ q ∈ L, SqT X.K H2 q.1 (q.2.map V.int)) ∧ Ext H H2 ∧ RepS X.K H2 S2 ∧ P (.lst ((L.map (·.2)).map keyD)) S2) I ?_) fun u s1 ⟨v, H', I', rv, p, L, H2, S2, ev, np, eH, hL, e1, s2', q⟩ => ?_
  · refine ⟨env, S, _, x, re, rs, h, fun d S1 v H1 ⟨ks, n, B, h1, h2, h3, h4, h5⟩ e1 r1 s1' => ?_, hx⟩
    obtain ⟨a, vs, rfl, hl, rl⟩ := lst_rep r1 s1' h1
    obtain ⟨L, el, ek, hk⟩ := keys_at rl
    subst el
    have ll : L.length = ks.length := by rw [← ek, List.length_map]
    refine ⟨a, L, rfl, hl, hk, by omega, fun b L2 nb sub all => ?_⟩
    have ex : Ext H1 (upd H1 b (SetTO X.prog X.w b L2)) := Ext.new nb
    refine ⟨b, L2, n, B, rfl, upd_same, fun q hq2 => ex.sqt (hk q (sub q hq2)), h3, fun q hq2 => ?_, fun L3 p pm nd _ _ np => ?_⟩
    · have := h4 q.2 (by rw [← ek]; exact List.mem_map_of_mem (sub q hq2))
      exact ⟨this.1, fun m hm => this.2 m hm⟩
    · refine ⟨p, L3, _, S1, rfl, np, rfl, fun q hq2 => ex.sqt (hk q (sub q (pm.mem_iff.mp hq2))), e1.trans ex, s1'.new nb, ?_⟩
      refine h5 _ nd fun k => ?_
      rw [← ek, List.mem_map, List.mem_map]
      constructor
      · rintro ⟨q, hq2, rfl⟩
        exact ⟨q, sub q (pm.mem_iff.mp hq2), rfl⟩
      · rintro ⟨q, hq2, rfl⟩
        obtain ⟨q2, h6, h7⟩ := List.mem_map.mp (all q hq2)
        exact ⟨q2, pm.mem_iff.mpr h6, h7⟩
  · subst ev eH
    obtain ⟨ob, J⟩ := freeze I' upd_same
    rw [upd_upd] at J
    exact ⟨.ref p, _, J, rv, hq _ _ _ _ q (e1.trans (Ext.new np)) (.lst (.inl ⟨ob, upd_same⟩) ((keys_to hL).ext (Ext.new np))) (s2'.new np)⟩
end
end PL
namespace PL
open PySem PySem.Spec L2
/-! ### truth of a value -/
def wTru (w : WE) : WB := fun env S P X => w env S (fun d S' => match d with
  | .bl k => P k S'
  | .non => P false S'
  | .int i => P (i != 0) S'
  | .str y => y.length ≤ sizeLine ∧ P ((y.length : Int) != 0) S'
  | .tup ds => P (!ds.isEmpty) S'
  | .lst ds => P (!ds.isEmpty) S'
  | .ref a => match S' a with
    | some (.lst ds) => P (!ds.isEmpty) S'
    | _ => False
  | .obj _ _ _ => False) X
theorem empty_rep {K : PySem.W.Frag} {H : Hp} {vs : List V} {ds : List D} (r : RepL K H vs ds) : (!vs.isEmpty) = !ds.isEmpty := by cases r <;> rfl
section
variable {X : Cx} {W : WX} {e : Expr} {w : WE}
theorem it_tru (h : IE X W e w) (he : ∀ whole, isTrue e X.env whole = (do let v ← whole; standAt e.pos; holding [v] (truthy v))) : IT X W e (wTru w) :=
  (pt_truth h he).of fun σ H Q ⟨env, S, P, x, re, rs, h, hq, hx⟩ => ⟨env, S, _, x, re, rs, h, fun d S' v H' p e1 r s => by
    cases r with
    | bl k => exact ⟨k, rfl, hq k S' H' p e1 s⟩
    | obj _ _ _ _ => exact p.elim
    | non => exact ⟨false, rfl, hq false S' H' p e1 s⟩
    | int i => exact ⟨_, rfl, hq _ S' H' p e1 s⟩
    | str y => exact ⟨_, ⟨p.1, rfl⟩, hq _ S' H' p.2 e1 s⟩
    | tup h1 t1 => exact ⟨_, .inr (.inl ⟨_, h1, rfl⟩), hq _ S' H' (by rw [empty_rep t1]; exact p) e1 s⟩
    | lst h1 t1 => exact ⟨_, .inl ⟨_, h1.sql, rfl⟩, hq _ S' H' (by rw [empty_rep t1]; exact p) e1 s⟩
    | ref a =>
      have p' : (match S' a with
        | some (.lst ds) => P (!ds.isEmpty) S'
        | _ => False) := p
      cases eS : S' a with
      | none => rw [eS] at p'; exact p'.elim
      | some o =>
        cases o with
        | oth x => rw [eS] at p'; exact p'.elim
        | lst ds =>
          rw [eS] at p'
          obtain ⟨vs, q, t⟩ := s a _ eS
          exact ⟨_, .inl ⟨vs, .of q, rfl⟩, hq _ S' H' (by rw [empty_rep t]; exact p') e1 s⟩, hx⟩
end
/-! ### the tables -/
structure Gs where
  fns : List FE
  blt : List Str
  imp : List (Str × String)
  cst : List (Str × D)
  exc : List (Str × Str)
  cls : List Str
  sub : Str → Str → Bool
  flds : List Str
  muts : List (Nat × Nat)
  frz : List (Nat × Nat × Str) := []
  obj : List (Str × List Str) := []
  eqs : List (Str × List Str) := []
def findO (x : Str) : List (Str × List Str) → Option (List Str)
  | [] => none
  | q :: r => if q.1 = x then some q.2 else findO x r
theorem findO_of {x : Str} {ks : List Str} : ∀ {l : List (Str × List Str)}, findO x l = some ks → (x, ks) ∈ l
  | q :: r, h => by
    unfold findO at h
    split at h
    · rename_i e
      cases h
      subst e
      exact List.mem_cons_self
    · exact List.mem_cons_of_mem _ (findO_of h)
def fldO (f : Str) : List (Str × List Str) → Option (Str × List Str × Nat)
  | [] => none
  | q :: r => if q.2[q.2.idxOf f]? = some f then some (q.1, q.2, q.2.idxOf f) else fldO f r
theorem fldO_of {f cn : Str} {ks : List Str} {i : Nat} : ∀ {l : List (Str × List Str)}, fldO f l = some (cn, ks, i) → (cn, ks) ∈ l ∧ ks[i]? = some f
  | q :: r, h => by
    unfold fldO at h
    split at h
    · rename_i e
      cases h
      exact ⟨List.mem_cons_self, e⟩
    · obtain ⟨a, b⟩ := fldO_of h
      exact ⟨List.mem_cons_of_mem _ a, b⟩
def eqO (op : CmpOp) (b : Expr) (l : List (Str × List Str)) : Option (Str × List Str) := match op, b with
  | .Eq, .Call (.Name x _) _ _ _ => (findO x l).map fun ks => (x, ks)
  | _, _ => none
theorem eqO_of {op : CmpOp} {b : Expr} {l : List (Str × List Str)} {cn : Str} {ks : List Str} (h : eqO op b l = some (cn, ks)) : op = .Eq ∧ (cn, ks) ∈ l := by
  unfold eqO at h
  split at h
  · rename_i x p es kws q
    cases e : findO x l with
    | none => rw [e] at h; cases h
    | some ks' =>
      rw [e] at h
      cases h
      exact ⟨rfl, findO_of e⟩
  · cases h
structure Good (G : Gs) (X : Cx) (W : WX) (N : List Str) (sc : Scope) (st : Str → Bool) (k : Nat) : Prop where
  hN : X.N = N
  hsc : X.env.scope = sc
  nd : N.Nodup
  calm : X.calm = true
  room : RoomG k X.A
  takes : Takes X W
  fns : ∀ e ∈ G.fns, FnIn X k e
  blt : ∀ x ∈ G.blt, X.mg x = none
  imp : ∀ q ∈ G.imp, X.mg q.1 = some (.builtin q.2)
  cst : ∀ q ∈ G.cst, ∃ v u, X.mg q.1 = some u ∧ RelV v u ∧ ∀ H, Rep X.K H v q.2
  exc : ∀ q ∈ G.exc, ∃ C fI, PX.ExTxt X.prog X.K X.mg q.1 q.2 C fI ∧ PX.FldOk q.2
  cls : ClsIn X G.cls G.sub
  fld : ∀ f ∈ G.flds, FldIn X G.cls f
  obj : ∀ q ∈ G.obj, q.2.Nodup ∧ Room 2 X.A ∧ ObjE X.prog X.w X.K X.mg X.base q
  eqs : ∀ q ∈ G.eqs, Room 1 X.A ∧ EqE X.prog X.w X.K X.mg X.base q
  store : ∀ x, st x = true → Loc sc x ∧ (X.fn x = true ∨ sc.names.lookup x = some .local)
/-! names -/
def plainName (x : Str) : Bool := !(x == ("__debug__" : Str)) && !(x == ("__classdict__" : Str)) && !(x == ("__name__" : Str))
theorem plain_of {x : Str} (h : plainName x = true) : (x == ("__debug__" : Str)) = false ∧ (x == ("__classdict__" : Str)) = false ∧ x ≠ ("__name__" : Str) := by
  unfold plainName at h
  simp only [Bool.and_eq_true, Bool.not_eq_true'] at h
  exact ⟨h.1.1, h.1.2, fun z => by rw [z] at h; simp at h⟩
def isVis (sc : Scope) (x : Str) : Bool := match sc.names.lookup x with
  | some .local => true
  | some .cell => true
  | some .free => true
  | _ => false
def isLoc (sc : Scope) (x : Str) : Bool := match sc.names.lookup x with
  | some .local => true
  | some .cell => true
  | _ => false
def isGl (sc : Scope) (x : Str) : Bool := match sc.names.lookup x with
  | some .globalImplicit => true
  | _ => false
def isLocal (sc : Scope) (x : Str) : Bool := match sc.names.lookup x with
  | some .local => true
  | _ => false
theorem vis_of {sc : Scope} {x : Str} (h : isVis sc x = true) : Vis sc x := by
  unfold isVis at h
  split at h <;> first | exact .inl (by assumption) | exact .inr (.inl (by assumption)) | exact .inr (.inr (by assumption)) | cases h
theorem loc_of {sc : Scope} {x : Str} (h : isLoc sc x = true) : Loc sc x := by
  unfold isLoc at h
  split at h <;> first | exact .inl (by assumption) | exact .inr (by assumption) | cases h
theorem gl_of {sc : Scope} {x : Str} (h : isGl sc x = true) : sc.names.lookup x = some .globalImplicit := by
  unfold isGl at h
  split at h
  · assumption
  · cases h
theorem local_of {sc : Scope} {x : Str} (h : isLocal sc x = true) : sc.names.lookup x = some .local := by
  unfold isLocal at h
  split at h
  · assumption
  · cases h
/-- the place of a name -/
def ixF (x : Str) : List Str → Nat → Option Nat
  | [], _ => none
  | y :: r, i => if x = y then some i else ixF x r (i + 1)
theorem ixF_of {x : Str} : ∀ {N : List Str} {i j : Nat}, ixF x N i = some j → ∃ k, j = i + k ∧ N[k]? = some x
  | [], _, _, h => by cases h
  | y :: r, i, j, h => by
    unfold ixF at h
    split at h
    · rename_i e
      cases h
      exact ⟨0, rfl, by rw [e]; rfl⟩
    · obtain ⟨k, e, q⟩ := ixF_of h
      exact ⟨k + 1, by omega, q⟩
def slotOf (N : List Str) (sc : Scope) (x : Str) : Option Nat := if isVis sc x && plainName x then ixF x N 0 else none
theorem slot_of {N : List Str} {sc : Scope} {x : Str} {i : Nat} (h : slotOf N sc x = some i) : N[i]? = some x ∧ Vis sc x ∧ plainName x = true := by
  unfold slotOf at h
  split at h
  · rename_i c
    have c' := Bool.and_eq_true_iff.mp c
    obtain ⟨k, e, q⟩ := ixF_of h
    rw [Nat.zero_add] at e
    subst e
    exact ⟨q, vis_of c'.1, c'.2⟩
  · cases h
def memS (x : Str) : List Str → Bool
  | [] => false
  | y :: r => if x = y then true else memS x r
theorem memS_of {x : Str} : ∀ {l : List Str}, memS x l = true → x ∈ l
  | [], h => by cases h
  | y :: r, h => by
    unfold memS at h
    split at h
    · rename_i e; rw [e]; exact List.mem_cons_self
    · exact List.mem_cons_of_mem _ (memS_of h)
def findS {α : Type} (x : Str) : List (Str × α) → Option α
  | [] => none
  | (y, a) :: r => if x = y then some a else findS x r
theorem findS_of {α : Type} {x : Str} {a : α} : ∀ {l : List (Str × α)}, findS x l = some a → (x, a) ∈ l
  | [], h => by cases h
  | (y, b) :: r, h => by
    unfold findS at h
    split at h
    · rename_i e; cases h; rw [e]; exact List.mem_cons_self
    · exact List.mem_cons_of_mem _ (findS_of h)
def findF (x : Str) : List FE → Option FE
  | [] => none
  | e :: r => if x = e.name then some e else findF x r
theorem findF_of {x : Str} {e : FE} : ∀ {l : List FE}, findF x l = some e → e ∈ l ∧ x = e.name
  | [], h => by cases h
  | f :: r, h => by
    unfold findF at h
    split at h
    · rename_i q; cases h; exact ⟨List.mem_cons_self, q⟩
    · obtain ⟨a, b⟩ := findF_of h
      exact ⟨List.mem_cons_of_mem _ a, b⟩
/-! operators -/
def opOf : Operator → Option O2
  | .Add => some oAdd
  | .Sub => some oSub
  | .Mult => some oMul
  | .FloorDiv => some oDiv
  | .Mod => some oMod
  | .Pow => some oPow
  | _ => none
def cmpOf : CmpOp → Option O2
  | .Eq => some oEq
  | .NotEq => some oNe
  | .Lt => some (oCmpI fun i j => decide (i < j))
  | .LtE => some (oCmpI fun i j => decide (i ≤ j))
  | .Gt => some (oCmpI fun i j => decide (j < i))
  | .GtE => some (oCmpI fun i j => decide (j ≤ i))
  | .Is => some oIs
  | .IsNot => some oIsNot
  | .In => some oIn
  | .NotIn => some oNotIn

section
variable {X : Cx} {o : O2}
theorem op_ok {op : Operator} (h : opOf op = some o) : D2 X (binaryOp op) o := by
  cases op with
  | Add => cases h; exact d_add
  | Sub => cases h; exact d_sub
  | Mult => cases h; exact d_mul
  | FloorDiv => cases h; exact d_div
  | Mod => cases h; exact d_mod
  | Pow => cases h; exact d_pow
  | _ => cases h
theorem cmp_ok {op : CmpOp} (hu : X.A.units + 66 < cLine) (h : cmpOf op = some o) : D2 X (compareOp op) o := by
  cases op with
  | Eq => cases h; exact d_eq (by omega)
  | NotEq => cases h; exact d_ne (by omega)
  | Lt => cases h; exact d_lt
  | LtE => cases h; exact d_le
  | Gt => cases h; exact d_gt
  | GtE => cases h; exact d_ge
  | Is => cases h; exact d_is
  | IsNot => cases h; exact d_isnot
  | In => cases h; exact d_in (by omega)
  | NotIn => cases h; exact d_notIn (by omega)
end
/-! built-ins by name -/
def bltOf (m : Bool) (x : Str) : Option (Value × ON) :=
  if x = ("abs" : Str) then some (.builtin "abs", oAbs)
  else if x = ("int" : Str) then some (.type "int", oInt)
  else if x = ("len" : Str) then some (.builtin "len", oLen)
  else if x = ("repr" : Str) then some (.builtin "repr", oRepr)
  else if x = ("tuple" : Str) then some (.type "tuple", oTuple)
  else if x = ("min" : Str) then some (.builtin "min", oMin)
  else if x = ("max" : Str) then some (.builtin "max", oMax)
  else if x = ("sum" : Str) then some (.builtin "sum", oSum)
  else if x = ("str" : Str) then some (.type "str", oStr)
  else if x = ("list" : Str) then some (.type "list", oListM m)
  else if x = ("sorted" : Str) then some (.builtin "sorted", oSortM m)
  else none
def impOf (id : String) : Option ON := if id = "math.gcd" then some oGcd else none
theorem blt_ok {X : Cx} {x : Str} {f : Value} {o : ON} {m : Bool} (hc : X.calm = true) (hg : X.A.guards = some []) (hu : X.A.units + 66 < cLine) (h : bltOf m x = some (f, o)) :
    ((∃ id, f = .builtin id) ∨ ∃ T, f = .type T) ∧ bootBuiltins x = some f ∧ DN X (fun us => call f us) o := by
  unfold bltOf at h
  repeat' split at h
  all_goals first | cases h | skip
  all_goals (rename_i e; subst e)
  · exact ⟨.inl ⟨_, rfl⟩, PyProof.Rows.Boot.«abs», n_abs⟩
  · exact ⟨.inr ⟨_, rfl⟩, PyProof.Rows.Boot.«int», n_int⟩
  · exact ⟨.inl ⟨_, rfl⟩, PyProof.Rows.Boot.«len», n_len⟩
  · exact ⟨.inl ⟨_, rfl⟩, PyProof.Rows.Boot.«repr», n_repr hg hu⟩
  · exact ⟨.inr ⟨_, rfl⟩, PyProof.Rows.Boot.«tuple», n_tuple⟩
  · exact ⟨.inl ⟨_, rfl⟩, PyProof.Rows.Boot.«min», n_min hc (by omega)⟩
  · exact ⟨.inl ⟨_, rfl⟩, PyProof.Rows.Boot.«max», n_max hc⟩
  · exact ⟨.inl ⟨_, rfl⟩, PyProof.Rows.Boot.«sum», n_sum hc⟩
  · exact ⟨.inr ⟨_, rfl⟩, PyProof.Rows.Boot.«str», n_str⟩
  · refine ⟨.inr ⟨_, rfl⟩, PyProof.Rows.Boot.«list», ?_⟩
    unfold oListM
    by_cases hm : m = true
    · rw [if_pos hm]; exact n_listN
    · rw [if_neg hm]; exact n_list
  · refine ⟨.inl ⟨_, rfl⟩, PyProof.Rows.Boot.«sorted», ?_⟩
    unfold oSortM
    by_cases hm : m = true
    · rw [if_pos hm]; exact n_sortD hc (by omega)
    · rw [if_neg hm]; exact n_sorted (by omega)
theorem imp_ok {X : Cx} {id : String} {o : ON} (h : impOf id = some o) : DN X (fun us => call (.builtin id) us) o := by
  unfold impOf at h
  split at h
  · rename_i e; subst e; cases h; exact n_gcd
  · cases h
def tyOf (x : Str) : Option Bt :=
  if x = ("int" : Str) then some .int
  else if x = ("bool" : Str) then some .bool
  else if x = ("str" : Str) then some .str
  else if x = ("tuple" : Str) then some .tuple
  else if x = ("list" : Str) then some .list
  else none
theorem ty_ok {x : Str} {t : Bt} (h : tyOf x = some t) : bootBuiltins x = some (.type t.nm) := by
  unfold tyOf at h
  repeat' split at h
  all_goals first | cases h | skip
  all_goals (rename_i e; subst e)
  · exact PyProof.Rows.Boot.«int»
  · exact PyProof.Rows.Boot.«bool»
  · exact PyProof.Rows.Boot.«str»
  · exact PyProof.Rows.Boot.«tuple»
  · exact PyProof.Rows.Boot.«list»
/-! what the syntax must not be -/
def noStar : Expr → Bool
  | .Starred _ _ => false
  | _ => true
theorem star_cons {e : Expr} {es : List Expr} {env : PySem.Env} (h : noStar e = true) : starEach (e :: es) env = (false, eval e env) :: starEach es env := by
  cases e <;> first | rfl | cases h
theorem star_any {env : PySem.Env} {pos : Pos} : ∀ {es : List Expr}, es.all noStar = true → (backTo pos (starEach es env)).any (·.1) = false
  | [], _ => rfl
  | e :: es, h => by
    rw [List.all_cons, Bool.and_eq_true] at h
    rw [star_cons h.1]
    show (false || (backTo pos (starEach es env)).any (·.1)) = false
    rw [star_any h.2]
    rfl
def noSlice : Expr → Bool
  | .Slice _ _ _ _ => false
  | _ => true
theorem plain_ix {b : Expr} (h : noSlice b = true) : PlainIx b := fun o i => by
  cases b <;> first | rfl | cases h
def noSet : Expr → Bool
  | .Set _ _ _ => false
  | _ => true
theorem set_iter {e : Expr} {env : PySem.Env} (h : noSet e = true) : ∀ x, foldedSetIterable e env x = pure x := fun x => by
  cases e <;> first | rfl | cases h
theorem set_mark {op : CmpOp} {e : Expr} (h : noSet e = true) : behindInMarks op e = false := by
  cases e <;> first | rfl | cases h
def noSuper : Expr → Bool
  | .Call _ _ _ _ => false
  | _ => true
theorem base_of {e : Expr} {f : Str} {env : PySem.Env} (h : noSuper e = true) : attributeBase e f env (eval e env) = eval e env := by
  cases e <;> first | rfl | cases h
/-- a value by whose truth a test goes -/
def plainT : Expr → Bool
  | .UnaryOp .Not _ _ => false
  | .BoolOp _ _ _ => false
  | .IfExp _ _ _ _ => false
  | .Compare _ _ _ _ => false
  | _ => true
theorem tru_of {e : Expr} {env : PySem.Env} (h : plainT e = true) : ∀ whole, isTrue e env whole = (do let v ← whole; standAt e.pos; holding [v] (truthy v)) := fun whole => by
  cases e with
  | UnaryOp op x p => cases op <;> first | rfl | cases h
  | BoolOp _ _ _ => cases h
  | IfExp _ _ _ _ => cases h
  | Compare _ _ _ _ => cases h
  | _ => rfl
def noComp : Expr → Bool
  | .ListComp _ _ _ _ => false
  | .SetComp _ _ _ _ => false
  | .DictComp _ _ _ _ _ => false
  | _ => true
theorem swap_of {e : Expr} {t : Option Expr} {l : Nat} {env : PySem.Env} (h : noComp e = true) : swapsWith e t l env = pure false := by
  cases e <;> first | rfl | cases h
end PL
namespace PL
open PySem PySem.Spec L2
/-! ### a, b = x, y: how the stores go -/
def isName : Expr → Bool
  | .Name _ _ => true
  | _ => false
def locName (sc : Scope) : Expr → Bool
  | .Name x _ => isLocal sc x
  | _ => false
def swNone (sc : Scope) (targets : List Expr) (value : Expr) : Bool := match targets, value with
  | [.Tuple ts _ _], .Tuple vs _ _ => !(ts.length == 2 || ts.length == 3) || vs.length != ts.length || vs.all (foldedForSure 8) || ts.any fun t => !locName sc t
  | [.List _ _], .Tuple _ _ _ => false
  | _, _ => true
theorem filterMap_lt {α β : Type} (f : α → Option β) : ∀ (l : List α) (a : α), a ∈ l → f a = none → (l.filterMap f).length < l.length
  | x :: l, a, h, hn => by
    rcases List.mem_cons.mp h with rfl | h
    · rw [List.filterMap_cons, hn]
      exact Nat.lt_succ_of_le (List.length_filterMap_le f l)
    · have ih := filterMap_lt f l a h hn
      rw [List.filterMap_cons]
      split
      · exact Nat.lt_succ_of_lt ih
      · exact Nat.succ_lt_succ ih
theorem sw_fold {ts vs : List Expr} {k k2 : Nat} {p p2 : Pos} {env : PySem.Env} (h : vs.all (foldedForSure 8) = true) : swappedStores [.Tuple ts k p] (.Tuple vs k2 p2) env = pure none := by
  unfold swappedStores
  simp only [h]
  split
  · rfl
  · split
    · rfl
    · split
      · rfl
      · rfl
theorem sw_none {sc : Scope} {targets : List Expr} {value : Expr} {env : PySem.Env} (hsc : env.scope = sc) (h : swNone sc targets value = true) : swappedStores targets value env = pure none := by
  unfold swNone at h
  split at h
  · rename_i ts k p vs k2 p2
    by_cases hf : vs.all (foldedForSure 8) = true
    · exact sw_fold hf
    have hf' : vs.all (foldedForSure 8) = false := by simpa using hf
    rw [hf', Bool.or_false] at h
    unfold swappedStores
    simp only
    by_cases c1 : (!(ts.length == 2 || ts.length == 3) || vs.length != ts.length || env.blockKind != .function) = true
    · rw [if_pos c1]
    rw [if_neg c1]
    have c1' : (!(ts.length == 2 || ts.length == 3) || vs.length != ts.length) = false := by
      cases q : (!(ts.length == 2 || ts.length == 3) || vs.length != ts.length) with
      | false => rfl
      | true => rw [q] at c1; exact absurd rfl c1
    rw [c1', Bool.false_or] at h
    obtain ⟨t, ht, hnn⟩ := List.any_eq_true.mp h
    split
    · rfl
    · have hl := filterMap_lt (fun
        | .Name id pos => if env.kindOf id == some .local && pos.line == (ts.head?.map (·.pos.line)).getD 0 then some id else none
        | _ => none) ts t ht (by
        cases t with
        | Name x p =>
          have hx : isLocal sc x = false := by simpa [locName] using hnn
          have hk : (env.kindOf x == some NameKind.local) = false := by
            show (env.scope.names.lookup x == some NameKind.local) = false
            rw [hsc]
            unfold isLocal at hx
            split at hx
            · cases hx
            · rename_i hne
              cases e : sc.names.lookup x with
              | none => rfl
              | some k => cases k <;> first | rfl | exact absurd e hne
          simp only [hk, Bool.false_and, Bool.false_eq_true, if_false]
        | _ => rfl)
      have c3 : ((ts.filterMap (fun
        | .Name id pos => if env.kindOf id == some .local && pos.line == (ts.head?.map (·.pos.line)).getD 0 then some id else none
        | _ => none)).length != ts.length) = true := by
        rw [bne_iff_ne]
        omega
      refine if_pos ?_
      rw [Bool.or_eq_true]
      exact .inl c3
  · cases h
  · rename_i h1 h2
    unfold swappedStores
    split
    · rename_i ts vs e
      split at e
      · exact (h1 _ _ _ _ _ _ rfl rfl).elim
      · exact (h2 _ _ _ _ _ rfl rfl).elim
      · cases e
    · rfl
/-- two or three different local names, on one line, not of written things alone -/
def swOk (sc : Scope) (xs : List (Str × Pos)) (vs : List Expr) : Bool :=
  (vs.length == xs.length) && vs.all noStar && (xs.all fun q => isLocal sc q.1 && (q.2.line == ((xs.head?.map (·.2.line)).getD 0))) && !(vs.all (foldedForSure 8)) && !(vs.all (constantsAlone 8))
theorem sw_two {sc : Scope} {x y : Str} {px py pt : Pos} {kt k2 : Nat} {pt2 : Pos} {a b : Expr} {env : PySem.Env} (hsc : env.scope = sc) (hk : env.scope.kind = .function) (hne : x ≠ y) (h : swOk sc [(x, px), (y, py)] [a, b] = true) :
    swappedStores [.Tuple [.Name x px, .Name y py] kt pt] (.Tuple [a, b] k2 pt2) env = pure (some [x, y]) := by
  subst hsc
  unfold swOk at h
  simp only [List.all_cons, List.all_nil, Bool.and_true, Bool.and_eq_true, Bool.not_eq_true', List.head?_cons, Option.map_some, Option.getD_some] at h
  obtain ⟨⟨⟨⟨_, h1⟩, ⟨hx, lx⟩, hy, ly⟩, hf⟩, hcn⟩ := h
  have kx : env.kindOf x = some .local := local_of hx
  have ky : env.kindOf y = some .local := local_of hy
  have bk : env.blockKind = .function := by unfold Env.blockKind; rw [hk]; rfl
  have sa : ∀ e : Expr, noStar e = true → (match e with | .Starred .. => true | _ => false) = false := fun e he => by cases e <;> first | rfl | cases he
  have hx2 : (x == y) = false := by simpa using hne
  have hy2 : (y == x) = false := by simpa using fun z : y = x => hne z.symm
  have er : ([x, y] : List Str).eraseDups = [x, y] := by
    rw [List.eraseDups_cons, List.filter_cons]
    simp [hy2]
    rfl
  have sv : ([a, b].any fun | .Starred .. => true | _ => false) = false := by
    rw [List.any_cons, List.any_cons, List.any_nil, sa a h1.1, sa b h1.2]
    rfl
  have f1 : ([a, b].all (foldedForSure 8)) = false := by simpa [List.all_cons] using hf
  have f2 : ([a, b].all (constantsAlone 8)) = false := by simpa [List.all_cons] using hcn
  unfold swappedStores
  simp only [bk, sv, f1, f2]
  have ly' : py.line = px.line := by simpa using ly
  have g1 : ¬ (foldedForSure 8 a = true ∧ foldedForSure 8 b = true) := by
    rw [← Bool.and_eq_true, hf]; decide
  have g2 : ¬ (constantsAlone 8 a = true ∧ constantsAlone 8 b = true) := by
    rw [← Bool.and_eq_true, hcn]; decide
  simp [List.filterMap_cons, kx, ky, Expr.pos, ly', er]
  intro h
  rcases h with h | h
  · exact (Bool.false_ne_true ((sa a h1.1).symm.trans h)).elim
  · exact (Bool.false_ne_true ((sa b h1.2).symm.trans h)).elim
theorem sw_three {sc : Scope} {x y z : Str} {px py pz pt : Pos} {kt k2 : Nat} {pt2 : Pos} {a b c : Expr} {env : PySem.Env} (hsc : env.scope = sc) (hk : env.scope.kind = .function) (hxy : x ≠ y) (hxz : x ≠ z) (hyz : y ≠ z) (h : swOk sc [(x, px), (y, py), (z, pz)] [a, b, c] = true) :
    swappedStores [.Tuple [.Name x px, .Name y py, .Name z pz] kt pt] (.Tuple [a, b, c] k2 pt2) env = pure (some [x, y, z]) := by
  subst hsc
  unfold swOk at h
  simp only [List.all_cons, List.all_nil, Bool.and_true, Bool.and_eq_true, Bool.not_eq_true', List.head?_cons, Option.map_some, Option.getD_some] at h
  obtain ⟨⟨⟨⟨_, h1⟩, ⟨hx, lx⟩, ⟨hy, ly⟩, hz, lz⟩, hf⟩, hcn⟩ := h
  have kx : env.kindOf x = some .local := local_of hx
  have ky : env.kindOf y = some .local := local_of hy
  have kz : env.kindOf z = some .local := local_of hz
  have bk : env.blockKind = .function := by unfold Env.blockKind; rw [hk]; rfl
  have sa : ∀ e : Expr, noStar e = true → (match e with | .Starred .. => true | _ => false) = false := fun e he => by cases e <;> first | rfl | cases he
  have yx : (y == x) = false := by simpa using fun q : y = x => hxy q.symm
  have zx : (z == x) = false := by simpa using fun q : z = x => hxz q.symm
  have zy : (z == y) = false := by simpa using fun q : z = y => hyz q.symm
  have er : ([x, y, z] : List Str).eraseDups = [x, y, z] := by
    rw [List.eraseDups_cons, List.filter_cons, List.filter_cons]
    simp only [yx, zx, Bool.not_false, if_true, List.filter_nil]
    rw [List.eraseDups_cons, List.filter_cons]
    simp only [zy, Bool.not_false, if_true, List.filter_nil]
    rfl
  have sv : ([a, b, c].any fun | .Starred .. => true | _ => false) = false := by
    rw [List.any_cons, List.any_cons, List.any_cons, List.any_nil, sa a h1.1, sa b h1.2.1, sa c h1.2.2]
    rfl
  have f1 : ([a, b, c].all (foldedForSure 8)) = false := by simpa [List.all_cons] using hf
  have f2 : ([a, b, c].all (constantsAlone 8)) = false := by simpa [List.all_cons] using hcn
  unfold swappedStores
  simp only [bk, sv, f1, f2]
  have ly' : py.line = px.line := by simpa using ly
  have lz' : pz.line = px.line := by simpa using lz
  simp [List.filterMap_cons, kx, ky, kz, Expr.pos, ly', lz', er]
  intro h
  rcases h with h | h | h
  · exact (Bool.false_ne_true ((sa a h1.1).symm.trans h)).elim
  · exact (Bool.false_ne_true ((sa b h1.2.1).symm.trans h)).elim
  · exact (Bool.false_ne_true ((sa c h1.2.2).symm.trans h)).elim
end PL
namespace PL
open PySem PySem.Spec L2
/-! ### from the text to the readings -/
def kwNames : List Keyword → Option (List Str)
  | [] => some []
  | ⟨some n, _, _⟩ :: r => (kwNames r).map (n :: ·)
  | ⟨none, _, _⟩ :: _ => none
def memP (q : Nat × List Str) : List (Nat × List Str) → Bool
  | [] => false
  | r :: l => if q = r then true else memP q l
theorem memP_of {q : Nat × List Str} : ∀ {l : List (Nat × List Str)}, memP q l = true → q ∈ l
  | [], h => by cases h
  | r :: l, h => by
    unfold memP at h
    split at h
    · rename_i e; rw [e]; exact List.mem_cons_self
    · exact List.mem_cons_of_mem _ (memP_of h)
def memN (q : Nat × Nat) : List (Nat × Nat) → Bool
  | [] => false
  | r :: l => if q = r then true else memN q l
/-- the names of a block and their places -/
def ownOf (N : List Str) : List (Str × NameKind) → List (Str × Nat)
  | [] => []
  | (x, .local) :: r => match ixF x N 0 with
    | some i => (x, i) :: ownOf N r
    | none => ownOf N r
  | (x, .cell) :: r => match ixF x N 0 with
    | some i => (x, i) :: ownOf N r
    | none => ownOf N r
  | _ :: r => ownOf N r
/-- sorted(set(e)) -/
def setArg (x : Str) (es : List Expr) (kws : List Keyword) : Option Expr := match es, kws with
  | [.Call (.Name y _) [e] [] _], [] => if x = ("sorted" : Str) ∧ y = ("set" : Str) then some e else none
  | _, _ => none
theorem setArg_of {x : Str} {es : List Expr} {kws : List Keyword} {e : Expr} (h : setArg x es kws = some e) : x = "sorted" ∧ kws = [] ∧ ∃ p2 c2, es = [.Call (.Name "set" p2) [e] [] c2] := by
  unfold setArg at h
  split at h
  · split at h
    · rename_i c
      obtain ⟨h1, h2⟩ := c
      cases h
      subst h1 h2
      exact ⟨rfl, rfl, _, _, rfl⟩
    · cases h
  · cases h
mutual
def trE (G : Gs) : Nat → List Str → Scope → (Str → Bool) → Expr → Option WE
  | 0, _, _, _, _ => none
  | n + 1, N, sc, st, e => match e with
    | .Constant (.int i) _ _ => some (wC (.int i))
    | .Constant (.bool i) _ _ => some (wC (.bl i))
    | .Constant .none _ _ => some (wC .non)
    | .Constant (.str i) _ _ => some (wC (.str i))
    | .Name x _ => match slotOf N sc x with
      | some i => some (wVar i)
      | none => if isGl sc x && plainName x then (findS x G.cst).map wC else none
    | .BinOp a op b _ => match opOf op, trE G n N sc st a, trE G n N sc st b with
      | some o, some wa, some wb => some (w2 o wa wb)
      | _, _, _ => none
    | .UnaryOp .USub a _ => (trE G n N sc st a).map (w1 oNeg)
    | .UnaryOp .Not a _ => (trE G n N sc st a).map wNotV
    | .Compare a [op] [b] _ => if noSet b then (match eqO op b G.eqs with
        | some (cn, ks) => match trE G n N sc st a, trE G n N sc st b with
          | some wa, some wb => some (wEqO cn ks wa wb)
          | _, _ => none
        | none => match cmpOf op, trE G n N sc st a, trE G n N sc st b with
          | some o, some wa, some wb => some (w2 o wa wb)
          | _, _, _ => none)
      else none
    | .Compare a [op, op'] [b, c] _ => if noSet c then match cmpOf op, cmpOf op', trE G n N sc st a, trE G n N sc st b, trE G n N sc st c with
        | some o, some o', some wa, some wb, some wc => some (wChain o o' wa wb wc)
        | _, _, _, _, _ => none
      else none
    | .BoolOp op vs _ => trV G n N sc st op vs
    | .IfExp c a b _ => match trT G n N sc st c, trE G n N sc st a, trE G n N sc st b with
      | some wc, some wa, some wb => some (wIf wc wa wb)
      | _, _, _ => none
    | .Tuple es _ _ => (trA G n N sc st es).map wTup
    | .List es p => (trA G n N sc st es).map (if memN (p.line, p.col) G.muts then wNew else wLst)
    | .Subscript a b p => match b with
      | .Slice none none (some (.UnaryOp .USub (.Constant (.int k) _ _) _)) _ => if k = 1 then (trE G n N sc st a).map (if memN (p.line, p.col) G.muts then wRevN else wRev) else none
      | .Slice none (some (.Constant (.int z) _ _)) (some (.UnaryOp .USub (.Constant (.int k) _ _) _)) _ => if z = 0 ∧ k = 1 then (trE G n N sc st a).map wBack0 else none
      | .Slice lo hi none _ => match trE G n N sc st a, trO G n N sc st lo, trO G n N sc st hi with
        | some wa, some wl, some wh => some (wSlice wa wl wh)
        | _, _, _ => none
      | b => if noSlice b then match trE G n N sc st a, trE G n N sc st b with
          | some wa, some wb => some (w2 (if memN (p.line, p.col + 3000000) G.muts then oDGet else oIdx) wa wb)
          | _, _ => none
        else none
    | .Call (.Name x _) es kws cpos => if isGl sc x && plainName x && es.all noStar then
        match setArg x es kws with
        | some e => if isGl sc "set" && memS "sorted" G.blt && memS "set" G.blt && noStar e then (trE G n N sc st e).map wSortSet else none
        | none => match findF x G.fns with
        | some fe => match kwNames kws with
          | some ks => if memP (es.length, ks) fe.pats then match trA G n N sc st es, trK G n N sc st kws with
              | some was, some wks => some (wCall fe.con (ixOf fe.ps es.length ks) was wks)
              | _, _ => none
            else none
          | none => none
        | none => match kws, es with
          | [], _ :: _ => match findS x G.imp with
            | some id => match impOf id, trA G n N sc st es with
              | some o, some was => some (wN o was)
              | _, _ => none
            | none => if memS x G.blt then (if x = ("isinstance" : Str) then match es with
                | [e, .Name t _] => if isGl sc t && plainName t && memS t G.blt then match tyOf t, trE G n N sc st e with
                    | some bt, some w => some (wIsT bt w)
                    | _, _ => none
                  else none
                | _ => none
              else match bltOf (memN (cpos.line, cpos.col + 2000000) G.muts) x, trA G n N sc st es with
                | some (_, o), some was => some (wN o was)
                | _, _ => none)
              else match findO x G.obj with
                | some ks => (trA G n N sc st es).map (wMk x ks)
                | none => none
          | _, _ => none
      else none
    | .Call (.Attribute o m apos) es [] cpos => if noSuper o && apos.endLine == cpos.line then
        if m = ("append" : Str) then match es with
          | [e] => if noStar e then match trE G n N sc st o, trE G n N sc st e with
              | some wo, some we => some (wApp wo we)
              | _, _ => none
            else none
          | _ => none
        else if m = ("index" : Str) then match es with
          | [e] => if noStar e then match trE G n N sc st o, trE G n N sc st e with
              | some wo, some we => some (wIndex wo we)
              | _, _ => none
            else none
          | _ => none
        else if m = ("pop" : Str) then match es with
          | [] => (trE G n N sc st o).map wPop
          | _ => none
        else if m = ("get" : Str) then match es with
          | [e, f] => if noStar e && noStar f then match trE G n N sc st o, trE G n N sc st e, trE G n N sc st f with
              | some wo, some we, some wf => some (wDGet wo we wf)
              | _, _, _ => none
            else none
          | _ => none
        else none
      else none
    | .Dict [] [] _ => some wDNew
    | .Attribute o f _ => if noSuper o then match fldO f G.obj with
        | some (cn, ks, i) => (trE G n N sc st o).map (wFld cn ks i)
        | none => none
      else none
    | .ListComp elt [⟨tg, iter, ifs, 0⟩] scope p => if blkC N sc scope (ownOf N scope.names) && noSet iter then
        match trI G n N sc st tg iter, trG G n N (relS scope sc) (isLoc scope) tg, trIf G n N (relS scope sc) (isLoc scope) ifs, trE G n N (relS scope sc) (isLoc scope) elt with
        | some wi, some (g, l), some t, some w => if l.all (fun i => ((ownOf N scope.names).map (fun q : Str × Nat => q.2)).contains i) then some ((if memN (p.line, p.col + 1000000) G.muts then wLcN else wLc) wi g t w ((ownOf N scope.names).map (fun q : Str × Nat => q.2))) else none
        | _, _, _, _ => none
      else none
    | _ => none
def trV (G : Gs) : Nat → List Str → Scope → (Str → Bool) → BoolOp → List Expr → Option WE
  | 0, _, _, _, _, _ => none
  | n + 1, N, sc, st, op, es => match es with
    | [a] => trE G n N sc st a
    | a :: b :: r => match trE G n N sc st a, trV G n N sc st op (b :: r) with
      | some wa, some wb => some (match op with
        | .And => wAndV wa wb
        | .Or => wOrV wa wb)
      | _, _ => none
    | [] => none
def trT (G : Gs) : Nat → List Str → Scope → (Str → Bool) → Expr → Option WB
  | 0, _, _, _, _ => none
  | n + 1, N, sc, st, e => match e with
    | .Compare a [op] [b] _ => if noSet b then match cmpOf op, trE G n N sc st a, trE G n N sc st b with
        | some o, some wa, some wb => some (wBl (w2 o wa wb))
        | _, _, _ => none
      else none
    | .Compare a [op, op'] [b, c] _ => if noSet c then match cmpOf op, cmpOf op', trE G n N sc st a, trE G n N sc st b, trE G n N sc st c with
        | some o, some o', some wa, some wb, some wc => some (wBl (wChain o o' wa wb wc))
        | _, _, _, _, _ => none
      else none
    | .BoolOp op vs _ => trVT G n N sc st op vs
    | .UnaryOp .Not a _ => (trT G n N sc st a).map wNotB
    | e => if plainT e then (trE G n N sc st e).map wTru else none
def trVT (G : Gs) : Nat → List Str → Scope → (Str → Bool) → BoolOp → List Expr → Option WB
  | 0, _, _, _, _, _ => none
  | n + 1, N, sc, st, op, es => match es with
    | [a] => trT G n N sc st a
    | a :: b :: r => match trT G n N sc st a, trVT G n N sc st op (b :: r) with
      | some wa, some wb => some (match op with
        | .And => wAndB wa wb
        | .Or => wOrB wa wb)
      | _, _ => none
    | [] => none
def trA (G : Gs) : Nat → List Str → Scope → (Str → Bool) → List Expr → Option WA
  | 0, _, _, _, _ => none
  | n + 1, N, sc, st, es => match es with
    | [] => some wNil
    | e :: r => if noStar e then match trE G n N sc st e, trA G n N sc st r with
        | some w, some ws => some (wCons w ws)
        | _, _ => none
      else none
def trK (G : Gs) : Nat → List Str → Scope → (Str → Bool) → List Keyword → Option WA
  | 0, _, _, _, _ => none
  | n + 1, N, sc, st, kws => match kws with
    | [] => some wNil
    | ⟨_, e, _⟩ :: r => match trE G n N sc st e, trK G n N sc st r with
      | some w, some ws => some (wCons w ws)
      | _, _ => none
def trO (G : Gs) : Nat → List Str → Scope → (Str → Bool) → Option Expr → Option (Option WE)
  | 0, _, _, _, _ => none
  | n + 1, N, sc, st, e => match e with
    | none => some none
    | some e => (trE G n N sc st e).map some
def trI (G : Gs) : Nat → List Str → Scope → (Str → Bool) → Expr → Expr → Option WI
  | 0, _, _, _, _, _ => none
  | n + 1, N, sc, st, tg, e => match e with
    | .Call (.Name x _) es [] _ => if x = ("range" : Str) then
        if isGl sc x && memS x G.blt && es.all noStar then match es with
          | [a] => (trA G n N sc st [a]).map wRange1
          | [a, b] => (trA G n N sc st [a, b]).map wRange2
          | _ => none
        else none
      else if x = ("zip" : Str) then
        if isGl sc x && memS x G.blt && es.all noStar then match tg, es with
          | .Tuple _ _ _, [a, b] => (trA G n N sc st [a, b]).map wZip
          | _, _ => none
        else none
      else if x = ("enumerate" : Str) then
        if isGl sc x && memS x G.blt && es.all noStar then match tg, es with
          | .Tuple _ _ _, [a] => (trA G n N sc st [a]).map wEnum
          | _, _ => none
        else none
      else if x = ("reversed" : Str) then
        if isGl sc x && memS x G.blt && es.all noStar then match es with
          | [a] => (trE G n N sc st a).map wRevI
          | _ => none
        else none
      else (trE G n N sc st e).map wItems
    | e => (trE G n N sc st e).map wItems
def trG (G : Gs) : Nat → List Str → Scope → (Str → Bool) → Expr → Option (WG × List Nat)
  | 0, _, _, _, _ => none
  | n + 1, N, sc, st, e => match e with
    | .Name x _ => if st x then (ixF x N 0).map fun i => (gVar i, [i]) else none
    | .Tuple es _ _ => if es.all noStar then (trGs G n N sc st es).map fun q => (gTupD es.length q.1, q.2) else none
    | .Subscript o i p => if noSlice i then match trE G n N sc st o, trE G n N sc st i with
        | some wo, some wi => some ((if memN (p.line, p.col + 3000000) G.muts then gDSub else gSubD) wo wi, [])
        | _, _ => none
      else none
    | _ => none
def trGs (G : Gs) : Nat → List Str → Scope → (Str → Bool) → List Expr → Option (WGs × List Nat)
  | 0, _, _, _, _ => none
  | n + 1, N, sc, st, es => match es with
    | [] => some (gNilD, [])
    | e :: r => match trG G n N sc st e, trGs G n N sc st r with
      | some (g, l), some (gs, ls) => some (gConsD g gs, l ++ ls)
      | _, _ => none
def trIf (G : Gs) : Nat → List Str → Scope → (Str → Bool) → List Expr → Option WB
  | 0, _, _, _, _ => none
  | n + 1, N, sc, st, es => match es with
    | [] => some tYesD
    | [c] => trT G n N sc st c
    | _ => none
end
end PL
namespace PL
open PySem PySem.Spec L2
structure Snd (G : Gs) (n : Nat) : Prop where
  e : ∀ {X W N sc st k e w}, Good G X W N sc st k → trE G n N sc st e = some w → IE X W e w
  v : ∀ {X W N sc st k op es w pos}, Good G X W N sc st k → trV G n N sc st op es = some w → IE X W (.BoolOp op es pos) w
  t : ∀ {X W N sc st k e w}, Good G X W N sc st k → trT G n N sc st e = some w → IT X W e w
  vt : ∀ {X W N sc st k op es w pos}, Good G X W N sc st k → trVT G n N sc st op es = some w → IW X W (.BoolOp op es pos) w
  a : ∀ {X W N sc st k es w}, Good G X W N sc st k → trA G n N sc st es = some w → IA X W es w
  kw : ∀ {X W N sc st k es w}, Good G X W N sc st k → trK G n N sc st es = some w → IK X W es w
  o : ∀ {X W N sc st k e w}, Good G X W N sc st k → trO G n N sc st e = some w → IO X W e w
  i : ∀ {X W N sc st k e w tg}, Good G X W N sc st k → trI G n N sc st tg e = some w → II X W tg e w
  g : ∀ {X W N sc st k e g ls l}, Good G X W N sc st k → trG G n N sc st e = some (g, ls) → (∀ i ∈ ls, i ∈ l) → IG X W l e g
  gs : ∀ {X W N sc st k es g ls l}, Good G X W N sc st k → trGs G n N sc st es = some (g, ls) → es.all noStar = true → (∀ i ∈ ls, i ∈ l) → IGs X W l es g
  f : ∀ {X N sc st k es w}, Good G X W0 N sc st k → trIf G n N sc st es = some w → ITs X es w
theorem kw_all {pos : Pos} {env : PySem.Env} : ∀ {kws : List Keyword} {ks : List Str}, kwNames kws = some ks → (backToKw pos (keywordEach kws env)).all (·.1.isSome) = true ∧ (backToKw pos (keywordEach kws env)).filterMap (·.1) = ks ∧ (backToKw pos (keywordEach kws env)).any (·.1.isNone) = false ∧ kws.length = ks.length
  | [], ks, h => by cases h; exact ⟨rfl, rfl, rfl, rfl⟩
  | ⟨none, _, _⟩ :: _, _, h => by cases h
  | ⟨some n, e, p⟩ :: r, ks, h => by
    have h' : (kwNames r).map (n :: ·) = some ks := h
    cases e2 : kwNames r with
    | none => rw [e2] at h'; cases h'
    | some ks2 =>
      rw [e2] at h'
      cases h'
      obtain ⟨a, b, c, d⟩ := kw_all (pos := pos) (env := env) e2
      refine ⟨?_, ?_, ?_, ?_⟩
      · show (true && (backToKw pos (keywordEach r env)).all (·.1.isSome)) = true
        rw [a]; rfl
      · show n :: (backToKw pos (keywordEach r env)).filterMap (·.1) = n :: ks2
        rw [b]
      · show (false || (backToKw pos (keywordEach r env)).any (·.1.isNone)) = false
        rw [c]; rfl
      · rw [List.length_cons, List.length_cons, d]
section
variable {G : Gs} {X : Cx} {W : WX} {N : List Str} {sc : Scope} {st : Str → Bool} {k : Nat}
theorem Good.hu (g : Good G X W N sc st k) : X.A.units + 66 < cLine := by have := g.room.room.un; omega
theorem Good.hu64 (g : Good G X W N sc st k) : X.A.units + 64 < cLine := by have := g.room.room.un; omega
theorem Good.gl (g : Good G X W N sc st k) {x : Str} (h : isGl sc x = true) : Gl X x := by
  show X.env.scope.names.lookup x = _
  rw [g.hsc]
  exact gl_of h
theorem Good.vis (g : Good G X W N sc st k) {x : Str} (h : Vis sc x) : Vis X.env.scope x := by rw [g.hsc]; exact h
theorem Good.ndX (g : Good G X W N sc st k) : X.N.Nodup := by rw [g.hN]; exact g.nd
theorem own_ix : ∀ {names : List (Str × NameKind)} {p : Str × Nat}, p ∈ ownOf N names → N[p.2]? = some p.1
  | [], _, h => by cases h
  | (x, .local) :: r, p, h => by
    unfold ownOf at h
    split at h
    · rename_i i e
      rcases List.mem_cons.mp h with rfl | h
      · obtain ⟨j, ej, q⟩ := ixF_of e
        rw [Nat.zero_add] at ej
        subst ej
        exact q
      · exact own_ix h
    · exact own_ix h
  | (x, .cell) :: r, p, h => by
    unfold ownOf at h
    split at h
    · rename_i i e
      rcases List.mem_cons.mp h with rfl | h
      · obtain ⟨j, ej, q⟩ := ixF_of e
        rw [Nat.zero_add] at ej
        subst ej
        exact q
      · exact own_ix h
    · exact own_ix h
  | (x, .free) :: r, p, h => own_ix (names := r) h
  | (x, .globalExplicit) :: r, p, h => own_ix (names := r) h
  | (x, .globalImplicit) :: r, p, h => own_ix (names := r) h
/-- within a block -/
theorem Good.blk (g : Good G X W N sc st k) (scope : Scope) (s : Shared) (H : Hp) (C : Addr) (cl : List (Str × Addr)) (fp : List Addr) : Good G (X.blk s H scope (compEnvC scope cl C X.env) fp) W0 N (relS scope sc) (isLoc scope) k where
  hN := g.hN
  hsc := by
    show relabel scope X.env = relS scope sc
    rw [← g.hsc]
    rfl
  nd := g.nd
  calm := g.calm
  room := g.room
  takes := takes0
  fns := g.fns
  blt := g.blt
  imp := g.imp
  cst := g.cst
  exc := g.exc
  cls := ⟨g.cls.cls, g.cls.isa⟩
  fld := g.fld
  obj := g.obj
  eqs := g.eqs
  store := fun x hx => by
    unfold isLoc at hx
    split at hx
    · rename_i e
      have q := lookup_relS_keep (sc := sc) (k := .local) (by decide) e
      exact ⟨.inl q, .inr q⟩
    · rename_i e
      have q := lookup_relS_keep (sc := sc) (k := .cell) (by decide) e
      exact ⟨.inr q, .inl (by show (scope.names.lookup x == some .cell) = true; rw [e]; rfl)⟩
    · cases hx
theorem map_some {α β : Type} {f : α → β} {o : Option α} {b : β} (h : o.map f = some b) : ∃ a, o = some a ∧ f a = b := by
  cases o with
  | none => cases h
  | some a => exact ⟨a, rfl, Option.some.inj h⟩
theorem snd_v {n : Nat} (ih : Snd G n) {op : BoolOp} {es : List Expr} {w : WE} {pos : Pos} (g : Good G X W N sc st k) (h : trV G (n + 1) N sc st op es = some w) : IE X W (.BoolOp op es pos) w := by
  cases es with
  | nil => cases h
  | cons a r =>
    cases r with
    | nil => exact ie_one (ih.e g h)
    | cons b r =>
      cases op with
      | And =>
        have h' : (match trE G n N sc st a, trV G n N sc st .And (b :: r) with
          | some wa, some wb => some (wAndV wa wb)
          | _, _ => none) = some w := h
        split at h'
        · rename_i wa wb e1 e2
          cases h'
          exact ie_and (ih.e g e1) (ih.v g e2)
        · cases h'
      | Or =>
        have h' : (match trE G n N sc st a, trV G n N sc st .Or (b :: r) with
          | some wa, some wb => some (wOrV wa wb)
          | _, _ => none) = some w := h
        split at h'
        · rename_i wa wb e1 e2
          cases h'
          exact ie_or (ih.e g e1) (ih.v g e2)
        · cases h'
theorem snd_vt {n : Nat} (ih : Snd G n) {op : BoolOp} {es : List Expr} {w : WB} {pos : Pos} (g : Good G X W N sc st k) (h : trVT G (n + 1) N sc st op es = some w) : IW X W (.BoolOp op es pos) w := by
  cases es with
  | nil => cases h
  | cons a r =>
    cases r with
    | nil =>
      cases op with
      | And => exact iw_and1 (ih.t g h)
      | Or => exact iw_or1 (ih.t g h)
    | cons b r =>
      cases op with
      | And =>
        have h' : (match trT G n N sc st a, trVT G n N sc st .And (b :: r) with
          | some wa, some wb => some (wAndB wa wb)
          | _, _ => none) = some w := h
        split at h'
        · rename_i wa wb e1 e2
          cases h'
          exact iw_and (ih.t g e1) (ih.vt g e2)
        · cases h'
      | Or =>
        have h' : (match trT G n N sc st a, trVT G n N sc st .Or (b :: r) with
          | some wa, some wb => some (wOrB wa wb)
          | _, _ => none) = some w := h
        split at h'
        · rename_i wa wb e1 e2
          cases h'
          exact iw_or (ih.t g e1) (ih.vt g e2)
        · cases h'
theorem snd_a {n : Nat} (ih : Snd G n) {es : List Expr} {w : WA} (g : Good G X W N sc st k) (h : trA G (n + 1) N sc st es = some w) : IA X W es w := by
  cases es with
  | nil => cases h; exact ia_nil
  | cons e r =>
    have h' : (if noStar e then match trE G n N sc st e, trA G n N sc st r with
        | some w, some ws => some (wCons w ws)
        | _, _ => none
      else none) = some w := h
    split at h'
    · rename_i hs
      split at h'
      · rename_i w1 ws e1 e2
        cases h'
        exact ia_cons (ih.e g e1) (ih.a g e2) (star_cons hs)
      · cases h'
    · cases h'
theorem snd_k {n : Nat} (ih : Snd G n) {es : List Keyword} {w : WA} (g : Good G X W N sc st k) (h : trK G (n + 1) N sc st es = some w) : IK X W es w := by
  cases es with
  | nil => cases h; exact ik_nil
  | cons e r =>
    obtain ⟨nm, e, p⟩ := e
    have h' : (match trE G n N sc st e, trK G n N sc st r with
        | some w, some ws => some (wCons w ws)
        | _, _ => none) = some w := h
    split at h'
    · rename_i w1 ws e1 e2
      cases h'
      exact ik_cons (ih.e g e1) (ih.kw g e2)
    · cases h'
theorem snd_o {n : Nat} (ih : Snd G n) {e : Option Expr} {w : Option WE} (g : Good G X W N sc st k) (h : trO G (n + 1) N sc st e = some w) : IO X W e w := by
  cases e with
  | none => cases h; exact io_none
  | some e =>
    obtain ⟨w', e1, rfl⟩ := map_some (show (trE G n N sc st e).map some = some w from h)
    exact io_some (ih.e g e1)
theorem snd_f {n : Nat} (ih : Snd G n) {es : List Expr} {w : WB} (g : Good G X W0 N sc st k) (h : trIf G (n + 1) N sc st es = some w) : ITs X es w := by
  cases es with
  | nil => cases h; exact its_nil
  | cons c r =>
    cases r with
    | nil => exact its_one (ih.t g h)
    | cons d r => cases h
theorem snd_t {n : Nat} (ih : Snd G n) {e : Expr} {w : WB} (g : Good G X W N sc st k) (h : trT G (n + 1) N sc st e = some w) : IT X W e w := by
  have gen : ∀ {e : Expr}, (if plainT e then (trE G n N sc st e).map wTru else none) = some w → IT X W e w := fun {e} h => by
    split at h
    · rename_i hp
      obtain ⟨w', e1, rfl⟩ := map_some h
      exact it_tru (ih.e g e1) (tru_of hp)
    · cases h
  unfold trT at h
  split at h
  · rename_i a op b p
    split at h
    · rename_i hs
      split at h
      · rename_i o wa wb e1 e2 e3
        cases h
        exact it_cmp (cmp_ok g.hu e1) (ih.e g e2) (ih.e g e3) (set_mark hs)
      · cases h
    · cases h
  · split at h
    · rename_i hs
      split at h
      · rename_i o o' wa wb wc e1 e1' e2 e3 e4
        cases h
        exact it_chain (cmp_ok g.hu e1) (cmp_ok g.hu e1') (ih.e g e2) (ih.e g e3) (ih.e g e4) (set_mark hs)
      · cases h
    · cases h
  · exact (ih.vt g h).pt
  · obtain ⟨w', e1, rfl⟩ := map_some h
    exact it_not (ih.t g e1)
  · exact gen h
theorem snd_gs {n : Nat} (ih : Snd G n) {es : List Expr} {gg : WGs} {ls l : List Nat} (g : Good G X W N sc st k) (h : trGs G (n + 1) N sc st es = some (gg, ls)) (hns : es.all noStar = true) (hl : ∀ i ∈ ls, i ∈ l) : IGs X W l es gg := by
  cases es with
  | nil => cases h; exact igs_nil
  | cons e r =>
    have h' : (match trG G n N sc st e, trGs G n N sc st r with
      | some (g, l), some (gs, ls) => some (gConsD g gs, l ++ ls)
      | _, _ => none) = some (gg, ls) := h
    rw [List.all_cons, Bool.and_eq_true] at hns
    split at h'
    · rename_i g1 l1 gs1 ls1 e1 e2
      cases h'
      refine igs_cons (ih.g g e1 fun i hi => hl i (List.mem_append_left _ hi)) (ih.gs g e2 hns.2 fun i hi => hl i (List.mem_append_right _ hi)) ?_
      cases e <;> first | rfl | cases hns.1
    · cases h'
theorem asg_each {env : PySem.Env} : ∀ {es : List Expr}, es.all noStar = true → (assignEach es env).length = es.length ∧ (assignEach es env).findIdx? (·.1) = none
  | [], _ => ⟨rfl, rfl⟩
  | e :: es, h => by
    rw [List.all_cons, Bool.and_eq_true] at h
    obtain ⟨a, b⟩ := asg_each (env := env) h.2
    have hc : assignEach (e :: es) env = (false, assign e env) :: assignEach es env := by cases e <;> first | rfl | cases h.1
    rw [hc]
    refine ⟨by rw [List.length_cons, List.length_cons, a], ?_⟩
    rw [List.findIdx?_cons, b]
    rfl
theorem snd_g {n : Nat} (ih : Snd G n) {e : Expr} {gg : WG} {ls l : List Nat} (g : Good G X W N sc st k) (h : trG G (n + 1) N sc st e = some (gg, ls)) (hl : ∀ i ∈ ls, i ∈ l) : IG X W l e gg := by
  unfold trG at h
  split at h
  · rename_i x p
    split at h
    · rename_i hst
      obtain ⟨i, e1, e2⟩ := map_some h
      cases e2
      obtain ⟨j, ej, q⟩ := ixF_of e1
      rw [Nat.zero_add] at ej
      subst ej
      obtain ⟨hL, hf⟩ := g.store x hst
      exact ig_var g.ndX (by rw [g.hN]; exact q) (by rw [g.hsc]; exact hL) (by rw [g.hsc]; exact hf) (hl _ (List.mem_singleton.mpr rfl))
    · cases h
  · rename_i es k2 p
    split at h
    · rename_i hns
      obtain ⟨q, e1, e2⟩ := map_some h
      obtain ⟨g1, l1⟩ := q
      cases e2
      obtain ⟨a, b⟩ := asg_each (env := X.env) hns
      exact ig_tup g.calm (ih.gs g e1 hns hl) a b
    · cases h
  · rename_i o i p
    split at h
    · rename_i hns
      split at h
      · rename_i wo wi e1 e2
        cases h
        split
        · exact ig_dsub (by have := g.hu; omega) (ih.e g e1) (ih.e g e2) fun v => by cases i <;> first | rfl | cases hns
        · exact ig_sub (ih.e g e1) (ih.e g e2) fun v => by cases i <;> first | rfl | cases hns
      · cases h
    · cases h
  · cases h
theorem all2 {p : Expr → Bool} {a b : Expr} (h : [a, b].all p = true) : p a = true ∧ p b = true := by
  simp only [List.all_cons, List.all_nil, Bool.and_true, Bool.and_eq_true] at h
  exact h
theorem snd_i {n : Nat} (ih : Snd G n) {e tg : Expr} {w : WI} (g : Good G X W N sc st k) (h : trI G (n + 1) N sc st tg e = some w) : II X W tg e w := by
  have gen : ∀ {e : Expr}, (trE G n N sc st e).map wItems = some w → II X W tg e w := fun {e} h => by
    obtain ⟨w', e1, rfl⟩ := map_some h
    exact ii_items (ih.e g e1)
  unfold trI at h
  split at h
  · rename_i x p es p2
    split at h
    · rename_i hx
      subst hx
      split at h
      · rename_i hc
        simp only [Bool.and_eq_true] at hc
        obtain ⟨⟨hg, hb⟩, hns⟩ := hc
        have gl := g.gl hg
        have hm := g.blt _ (memS_of hb)
        split at h
        · rename_i a
          obtain ⟨w', e1, rfl⟩ := map_some h
          have ha : noStar a = true := by simpa using hns
          exact ii_range1 gl hm (ih.a g e1) (star_cons ha)
        · rename_i a b
          obtain ⟨w', e1, rfl⟩ := map_some h
          obtain ⟨ha, hb⟩ := all2 hns
          exact ii_range2 gl hm (ih.a g e1) (by rw [star_cons ha, star_cons hb]; rfl) (star_cons hb)
        · cases h
      · cases h
    · split at h
      · rename_i hx
        subst hx
        split at h
        · rename_i hc
          simp only [Bool.and_eq_true] at hc
          obtain ⟨⟨hg, hb⟩, hns⟩ := hc
          split at h
          · rename_i elts kk tp a b
            obtain ⟨w', e1, rfl⟩ := map_some h
            obtain ⟨ha, hb2⟩ := all2 hns
            exact ii_zip (g.gl hg) (g.blt _ (memS_of hb)) (ih.a g e1) (star_cons ha) (by rw [star_cons hb2]; rfl)
          · cases h
        · cases h
      · split at h
        · rename_i hx
          subst hx
          split at h
          · rename_i hc
            simp only [Bool.and_eq_true] at hc
            obtain ⟨⟨hg, hb⟩, hns⟩ := hc
            split at h
            · rename_i elts kk tp a
              obtain ⟨w', e1, rfl⟩ := map_some h
              have ha : noStar a = true := by simpa using hns
              exact ii_enum (g.gl hg) (g.blt _ (memS_of hb)) (ih.a g e1) (star_cons ha)
            · cases h
          · cases h
        · split at h
          · rename_i hx
            subst hx
            split at h
            · rename_i hc
              simp only [Bool.and_eq_true] at hc
              obtain ⟨⟨hg, hb⟩, hns⟩ := hc
              split at h
              · rename_i a
                obtain ⟨w', e1, rfl⟩ := map_some h
                have ha : noStar a = true := by simpa using hns
                exact ii_rev (g.gl hg) (g.blt _ (memS_of hb)) (ih.e g e1) (star_cons ha)
              · cases h
            · cases h
          · exact gen h
  · exact gen h
theorem snd_lc {n : Nat} (ih : Snd G n) {elt tg iter : Expr} {ifs : List Expr} {scope : Scope} {pos : Pos} {w : WE} (g : Good G X W N sc st k) (h : (if blkC N sc scope (ownOf N scope.names) && noSet iter then
        match trI G n N sc st tg iter, trG G n N (relS scope sc) (isLoc scope) tg, trIf G n N (relS scope sc) (isLoc scope) ifs, trE G n N (relS scope sc) (isLoc scope) elt with
        | some wi, some (g, l), some t, some w => if l.all (fun i => ((ownOf N scope.names).map (fun q : Str × Nat => q.2)).contains i) then some ((if memN (pos.line, pos.col + 1000000) G.muts then wLcN else wLc) wi g t w ((ownOf N scope.names).map (fun q : Str × Nat => q.2))) else none
        | _, _, _, _ => none
      else none) = some w) : IE X W (.ListComp elt [⟨tg, iter, ifs, 0⟩] scope pos) w := by
  split at h
  · rename_i hc
    rw [Bool.and_eq_true] at hc
    split at h
    · rename_i wi gg l t w1 e1 e2 e3 e4
      split at h
      · rename_i hl
        cases h
        have ok : BlkOk X.N X.env.scope scope (ownOf N scope.names) := by
          rw [g.hN, g.hsc]
          exact blkOk_by hc.1
        split
        · refine ie_lcN (own := ownOf N scope.names) g.calm g.ndX (ih.i g e1) ok (fun s H C cl fp => ih.g (g.blk scope s H C cl fp) e2 fun i hi => ?_) (fun s H C cl fp => ih.f (g.blk scope s H C cl fp) e3) (fun s H C cl fp => ih.e (g.blk scope s H C cl fp) e4) (set_iter hc.2)
          exact List.contains_iff_mem.mp (List.all_eq_true.mp hl i hi)
        · refine ie_lc (own := ownOf N scope.names) g.calm g.ndX (ih.i g e1) ok (fun s H C cl fp => ih.g (g.blk scope s H C cl fp) e2 fun i hi => ?_) (fun s H C cl fp => ih.f (g.blk scope s H C cl fp) e3) (fun s H C cl fp => ih.e (g.blk scope s H C cl fp) e4) (set_iter hc.2)
          exact List.contains_iff_mem.mp (List.all_eq_true.mp hl i hi)
      · cases h
    · cases h
  · cases h
theorem snd_call {n : Nat} (ih : Snd G n) {x : Str} {es : List Expr} {kws : List Keyword} {p pos : Pos} {w : WE} (g : Good G X W N sc st k) (h : (if isGl sc x && plainName x && es.all noStar then
        match setArg x es kws with
        | some e => if isGl sc "set" && memS "sorted" G.blt && memS "set" G.blt && noStar e then (trE G n N sc st e).map wSortSet else none
        | none => match findF x G.fns with
        | some fe => match kwNames kws with
          | some ks => if memP (es.length, ks) fe.pats then match trA G n N sc st es, trK G n N sc st kws with
              | some was, some wks => some (wCall fe.con (ixOf fe.ps es.length ks) was wks)
              | _, _ => none
            else none
          | none => none
        | none => match kws, es with
          | [], _ :: _ => match findS x G.imp with
            | some id => match impOf id, trA G n N sc st es with
              | some o, some was => some (wN o was)
              | _, _ => none
            | none => if memS x G.blt then (if x = ("isinstance" : Str) then match es with
                | [e, .Name t _] => if isGl sc t && plainName t && memS t G.blt then match tyOf t, trE G n N sc st e with
                    | some bt, some w => some (wIsT bt w)
                    | _, _ => none
                  else none
                | _ => none
              else match bltOf (memN (pos.line, pos.col + 2000000) G.muts) x, trA G n N sc st es with
                | some (_, o), some was => some (wN o was)
                | _, _ => none)
              else match findO x G.obj with
                | some ks => (trA G n N sc st es).map (wMk x ks)
                | none => none
          | _, _ => none
      else none) = some w) : IE X W (.Call (.Name x p) es kws pos) w := by
  split at h
  · rename_i hc
    simp only [Bool.and_eq_true] at hc
    obtain ⟨⟨hg, hp⟩, hns⟩ := hc
    have gl := g.gl hg
    obtain ⟨d1, d2, d3⟩ := plain_of hp
    split at h
    · rename_i e' es'
      split at h
      · rename_i hc2
        simp only [Bool.and_eq_true] at hc2
        obtain ⟨⟨⟨gs, b1⟩, b2⟩, ns⟩ := hc2
        obtain ⟨w', e1, rfl⟩ := map_some h
        obtain ⟨rfl, rfl, p2, c2, rfl⟩ := setArg_of es'
        exact ie_sortSet g.calm (by have := g.hu; omega) gl (g.blt _ (memS_of b1)) (g.gl gs) (g.blt _ (memS_of b2)) (ih.e g e1) (star_cons ns)
      · cases h
    · split at h
      · rename_i fe ef
        obtain ⟨hfe, rfl⟩ := findF_of ef
        split at h
        · rename_i ks ek
          obtain ⟨k1, k2, k3, k4⟩ := kw_all (pos := pos) (env := X.env) ek
          split at h
          · rename_i hm
            split at h
            · rename_i was wks e1 e2
              cases h
              cases es with
              | nil =>
                have ew : was = wNil := by
                  cases n with
                  | zero => cases e1
                  | succ n => cases e1; rfl
                subst ew
                exact ie_call0 (g.fns fe hfe) (memP_of hm) g.takes g.room gl d1 (ih.kw g e2) k4 k1 k2 (by rw [k3]; rfl)
              | cons e es =>
                have hns' := hns
                rw [List.all_cons, Bool.and_eq_true] at hns'
                exact ie_call (g.fns fe hfe) (memP_of hm) g.takes g.room gl d1 (ih.a g e1) (ih.kw g e2) rfl k4 k1 k2 (star_cons hns'.1) (by rw [star_any hns, k3]; rfl)
            · cases h
          · cases h
        · cases h
      · split at h
        · rename_i e r
          rw [List.all_cons, Bool.and_eq_true] at hns
          split at h
          · rename_i id ei
            split at h
            · rename_i o was e1 e2
              cases h
              exact ie_imp (imp_ok e1) gl (g.imp _ (findS_of ei)) (ih.a g e2) d1 (star_cons hns.1) (star_any hns.2)
            · cases h
          · split at h
            · rename_i hb
              split at h
              · rename_i hx
                subst hx
                split at h
                · rename_i e' t p2 hee
                  split at h
                  · rename_i hc2
                    simp only [Bool.and_eq_true] at hc2
                    obtain ⟨⟨gt, pt⟩, bt⟩ := hc2
                    split at h
                    · rename_i ty w1 et ew
                      cases h
                      cases hee
                      obtain ⟨t1, t2, t3⟩ := plain_of pt
                      exact ie_isT gl (g.blt _ (memS_of hb)) (g.gl gt) (g.blt _ (memS_of bt)) (ty_ok et) t3 t1 (ih.e g ew) (star_cons hns.1)
                    · cases h
                  · cases h
                · cases h
              · split at h
                · rename_i f o was e1 e2
                  cases h
                  obtain ⟨hf, hv, hd⟩ := blt_ok g.calm g.room.gd g.hu e1
                  have hm := g.blt _ (memS_of hb)
                  rcases hf with ⟨id, rfl⟩ | ⟨T, rfl⟩
                  · exact ie_blt hd gl hm hv (ih.a g e2) d3 d1 (star_cons hns.1) (star_any hns.2)
                  · exact ie_typ hd gl hm hv (ih.a g e2) d3 d1 (star_cons hns.1) (star_any hns.2)
                · cases h
            · split at h
              · rename_i ks eo
                obtain ⟨w', e1, rfl⟩ := map_some h
                obtain ⟨_, r2, C, f, fd, O⟩ := g.obj _ (findO_of eo)
                exact ie_make O r2 gl d1 (ih.a g e1) (star_cons hns.1) (star_any hns.2)
              · cases h
        · cases h
  · cases h
theorem snd_sub {n : Nat} (ih : Snd G n) {a b : Expr} {pos : Pos} {w : WE} (g : Good G X W N sc st k) (h : (match b with
      | .Slice none none (some (.UnaryOp .USub (.Constant (.int k) _ _) _)) _ => if k = 1 then (trE G n N sc st a).map (if memN (pos.line, pos.col) G.muts then wRevN else wRev) else none
      | .Slice none (some (.Constant (.int z) _ _)) (some (.UnaryOp .USub (.Constant (.int k) _ _) _)) _ => if z = 0 ∧ k = 1 then (trE G n N sc st a).map wBack0 else none
      | .Slice lo hi none _ => match trE G n N sc st a, trO G n N sc st lo, trO G n N sc st hi with
        | some wa, some wl, some wh => some (wSlice wa wl wh)
        | _, _, _ => none
      | b => if noSlice b then match trE G n N sc st a, trE G n N sc st b with
          | some wa, some wb => some (w2 (if memN (pos.line, pos.col + 3000000) G.muts then oDGet else oIdx) wa wb)
          | _, _ => none
        else none) = some w) : IE X W (.Subscript a b pos) w := by
  split at h
  · split at h
    · rename_i hk
      subst hk
      obtain ⟨w', e1, e2⟩ := map_some h
      split at e2
      · subst e2; exact ie_revN (ih.e g e1)
      · subst e2; exact ie_rev (ih.e g e1)
    · cases h
  · split at h
    · rename_i hk
      obtain ⟨rfl, rfl⟩ := hk
      obtain ⟨w', e1, rfl⟩ := map_some h
      exact ie_back0 (ih.e g e1)
    · cases h
  · split at h
    · rename_i wa wl wh e1 e2 e3
      cases h
      exact ie_slice (ih.e g e1) (ih.o g e2) (ih.o g e3)
    · cases h
  · split at h
    · rename_i hs
      split at h
      · rename_i wa wb e1 e2
        cases h
        split
        · exact ie_dsub (by have := g.hu; omega) (ih.e g e1) (ih.e g e2) (plain_ix hs)
        · exact ie_idx (ih.e g e1) (ih.e g e2) (plain_ix hs)
      · cases h
    · cases h
theorem snd_meth {n : Nat} (ih : Snd G n) {o : Expr} {m : Str} {apos cpos : Pos} {es : List Expr} {w : WE} (g : Good G X W N sc st k) (h : (if noSuper o && apos.endLine == cpos.line then
        if m = ("append" : Str) then match es with
          | [e] => if noStar e then match trE G n N sc st o, trE G n N sc st e with
              | some wo, some we => some (wApp wo we)
              | _, _ => none
            else none
          | _ => none
        else if m = ("index" : Str) then match es with
          | [e] => if noStar e then match trE G n N sc st o, trE G n N sc st e with
              | some wo, some we => some (wIndex wo we)
              | _, _ => none
            else none
          | _ => none
        else if m = ("pop" : Str) then match es with
          | [] => (trE G n N sc st o).map wPop
          | _ => none
        else if m = ("get" : Str) then match es with
          | [e, f] => if noStar e && noStar f then match trE G n N sc st o, trE G n N sc st e, trE G n N sc st f with
              | some wo, some we, some wf => some (wDGet wo we wf)
              | _, _, _ => none
            else none
          | _ => none
        else none
      else none) = some w) : IE X W (.Call (.Attribute o m apos) es [] cpos) w := by
  split at h
  · rename_i hc
    rw [Bool.and_eq_true] at hc
    split at h
    · rename_i hm
      subst hm
      split at h
      · rename_i e
        split at h
        · rename_i hs
          split at h
          · rename_i wo we e1 e2
            cases h
            exact ie_append (ih.e g e1) (ih.e g e2) (base_of hc.1) hc.2 (by rw [star_cons hs]; rfl) (star_cons hs)
          · cases h
        · cases h
      · cases h
    · split at h
      · rename_i hm
        subst hm
        split at h
        · rename_i e
          split at h
          · rename_i hs
            split at h
            · rename_i wo we e1 e2
              cases h
              exact ie_index (by have := g.hu; omega) (ih.e g e1) (ih.e g e2) (base_of hc.1) hc.2 (by rw [star_cons hs]; rfl) (star_cons hs)
            · cases h
          · cases h
        · cases h
      · split at h
        · rename_i hm
          subst hm
          split at h
          · obtain ⟨w', e1, rfl⟩ := map_some h
            exact ie_pop (ih.e g e1) (base_of hc.1) hc.2
          · cases h
        · split at h
          · rename_i hm
            subst hm
            split at h
            · rename_i e f
              split at h
              · rename_i hs
                rw [Bool.and_eq_true] at hs
                split at h
                · rename_i wo we wf e1 e2 e3
                  cases h
                  exact ie_dget (by have := g.hu; omega) (ih.e g e1) (ih.e g e2) (ih.e g e3) ⟨base_of hc.1, by rw [star_cons hs.1, star_cons hs.2]; rfl, hc.2, by rw [star_cons hs.1, star_cons hs.2]; rfl⟩
                · cases h
              · cases h
            · cases h
          · cases h
  · cases h
theorem snd_e {n : Nat} (ih : Snd G n) {e : Expr} {w : WE} (g : Good G X W N sc st k) (h : trE G (n + 1) N sc st e = some w) : IE X W e w := by
  unfold trE at h
  split at h
  · cases h; exact ie_int
  · cases h; exact ie_bl
  · cases h; exact ie_non
  · cases h; exact ie_str
  · rename_i x p
    split at h
    · rename_i i ei
      cases h
      obtain ⟨a, b, c⟩ := slot_of ei
      obtain ⟨d1, d2, d3⟩ := plain_of c
      exact ie_var (by rw [g.hN]; exact a) (g.vis b) d1 d2
    · split at h
      · rename_i hc
        rw [Bool.and_eq_true] at hc
        obtain ⟨d, ed, rfl⟩ := map_some h
        obtain ⟨d1, d2, d3⟩ := plain_of hc.2
        obtain ⟨v, u, hm, r, rp⟩ := g.cst _ (findS_of ed)
        exact (pe_glob (g.gl hc.1) hm r d1).of fun σ H Q ⟨env, S, P, x, re, rs, h, hq, _⟩ => hq.here h (rp H) rs
      · cases h
  · rename_i a op b p
    split at h
    · rename_i o wa wb e1 e2 e3
      cases h
      exact ie_op (op_ok e1) (ih.e g e2) (ih.e g e3)
    · cases h
  · obtain ⟨w', e1, rfl⟩ := map_some h
    exact ie_un d_neg (ih.e g e1)
  · obtain ⟨w', e1, rfl⟩ := map_some h
    exact ie_not (ih.e g e1)
  · split at h
    · rename_i hs
      split at h
      · rename_i cn ks eo
        split at h
        · rename_i wa wb e2 e3
          cases h
          obtain ⟨rfl, hm⟩ := eqO_of eo
          obtain ⟨r1, O⟩ := g.eqs _ hm
          exact ie_eqO O r1 (ih.e g e2) (ih.e g e3) (set_mark hs)
        · cases h
      · split at h
        · rename_i o wa wb e1 e2 e3
          cases h
          exact ie_cmp (cmp_ok g.hu e1) (ih.e g e2) (ih.e g e3) (set_mark hs)
        · cases h
    · cases h
  · split at h
    · rename_i hs
      split at h
      · rename_i o o' wa wb wc e1 e1' e2 e3 e4
        cases h
        exact ie_chain (cmp_ok g.hu e1) (cmp_ok g.hu e1') (ih.e g e2) (ih.e g e3) (ih.e g e4) (set_mark hs)
      · cases h
    · cases h
  · exact ih.v g h
  · split at h
    · rename_i wc wa wb e1 e2 e3
      cases h
      exact ie_if (ih.t g e1) (ih.e g e2) (ih.e g e3)
    · cases h
  · obtain ⟨w', e1, rfl⟩ := map_some h
    exact ie_tup (ih.a g e1)
  · obtain ⟨w', e1, e2⟩ := map_some h
    split at e2
    · subst e2; exact ie_new (ih.a g e1)
    · subst e2; exact ie_lst (ih.a g e1)
  · exact snd_sub ih g h
  · exact snd_call ih g h
  · exact snd_meth ih g h
  · cases h; exact ie_dnew
  · split at h
    · rename_i hs
      split at h
      · rename_i cn ks i ef
        obtain ⟨w', e1, rfl⟩ := map_some h
        obtain ⟨hm, hi⟩ := fldO_of ef
        obtain ⟨nd, r2, C, f, fd, O⟩ := g.obj _ hm
        exact ie_fld O nd hi (ih.e g e1) (base_of hs)
      · cases h
    · cases h
  · exact snd_lc ih g h
  · cases h
theorem snd (G : Gs) : ∀ n : Nat, Snd G n
  | 0 => ⟨(fun _ h => by cases h), (fun _ h => by cases h), (fun _ h => by cases h), (fun _ h => by cases h), (fun _ h => by cases h), (fun _ h => by cases h), (fun _ h => by cases h), (fun _ h => by cases h), (fun _ h _ => by cases h), (fun _ h _ _ => by cases h), (fun _ h => by cases h)⟩
  | n + 1 => have ih := snd G n
    ⟨fun g h => snd_e ih g h, fun g h => snd_v ih g h, fun g h => snd_t ih g h, fun g h => snd_vt ih g h, fun g h => snd_a ih g h, fun g h => snd_k ih g h, fun g h => snd_o ih g h, fun g h => snd_i ih g h, fun g h hl => snd_g ih g h hl, fun g h hns hl => snd_gs ih g h hns hl, fun g h => snd_f ih g h⟩
end
end PL
namespace PL
open PySem PySem.Spec L2
/-! ### suites that return -/
mutual
def trX (G : Gs) : Nat → List Str → Scope → Option (Nat × Str) → Expr → Option FX
  | 0, _, _, _, _ => none
  | n + 1, N, sc, i, e => match e with
    | .Constant (.int k) _ _ => some (fC (.int k))
    | .Constant (.bool k) _ _ => some (fC (.bl k))
    | .Constant .none _ _ => some (fC .non)
    | .Constant (.str k) _ _ => some (fC (.str k))
    | .Attribute (.Name x _) fl _ => match i with
      | some (_, nm) => if x = nm then (if memS fl G.flds then some (fFld fl) else none) else none
      | none => none
    | .IfExp c a b _ => match trXB G n N sc i c, trX G n N sc i a, trX G n N sc i b with
      | some t, some f, some g => some (fIf t f g)
      | _, _, _ => none
    | .Tuple es _ _ => (trXA G n N sc i es).map fTup
    | .List es _ => (trXA G n N sc i es).map fLst
    | .Compare a [.Eq] [b] _ => match trX G n N sc i a, trX G n N sc i b with
      | some f, some g => if behindInMarks .Eq b = false then some (fEq f g) else none
      | _, _ => none
    | .UnaryOp .USub a _ => (trX G n N sc i a).map fNeg
    | _ => none
def trXB (G : Gs) : Nat → List Str → Scope → Option (Nat × Str) → Expr → Option (XD → Option Bool)
  | 0, _, _, _, _ => none
  | n + 1, N, sc, i, e => match e with
    | .Call (.Name f _) [.Name x _, .Name m _] [] _ => match i with
      | some (_, nm) => if f = ("isinstance" : Str) then (if x = nm then (if isGl sc "isinstance" && memS "isinstance" G.blt && isGl sc m && memS m G.cls && plainName m then some (fIs G.sub m) else none) else none) else none
      | none => none
    | .UnaryOp .Not a _ => (trXB G n N sc i a).map fNotB
    | .BoolOp .And [a, b] _ => match trXB G n N sc i a, trXB G n N sc i b with
      | some f, some g => some (fAndB f g)
      | _, _ => none
    | .BoolOp .Or [a, b] _ => match trXB G n N sc i a, trXB G n N sc i b with
      | some f, some g => some (fOrB f g)
      | _, _ => none
    | _ => none
def trXA (G : Gs) : Nat → List Str → Scope → Option (Nat × Str) → List Expr → Option (XD → Option (List D))
  | 0, _, _, _, _ => none
  | n + 1, N, sc, i, es => match es with
    | [] => some faNil
    | e :: r => if noStar e then match trX G n N sc i e, trXA G n N sc i r with
        | some f, some g => some (faCons f g)
        | _, _ => none
      else none
end
/-- the name of the exception -/
def HdOk (X : Cx) : Option (Nat × Str) → Prop
  | some (k, nm) => X.N[k]? = some nm ∧ Vis X.env.scope nm ∧ plainName nm = true
  | none => True
structure SndX (G : Gs) (n : Nat) : Prop where
  x : ∀ {X W N sc st k i e f}, Good G X W N sc st k → HdOk X i → trX G n N sc i e = some f → IX X G.cls (i.map (fun q : Nat × Str => q.1)) e f
  b : ∀ {X W N sc st k i e f}, Good G X W N sc st k → HdOk X i → trXB G n N sc i e = some f → IXB X G.cls (i.map (fun q : Nat × Str => q.1)) e f
  a : ∀ {X W N sc st k i es f}, Good G X W N sc st k → HdOk X i → trXA G n N sc i es = some f → IXA X G.cls (i.map (fun q : Nat × Str => q.1)) es f
section
variable {G : Gs} {X : Cx} {W : WX} {N : List Str} {sc : Scope} {st : Str → Bool} {k : Nat} {i : Option (Nat × Str)}
theorem sndx_x {n : Nat} {e : Expr} {f : FX} (ih : SndX G n) (g : Good G X W N sc st k) (hi : HdOk X i) (h : trX G (n + 1) N sc i e = some f) : IX X G.cls (i.map (fun q : Nat × Str => q.1)) e f := by
  unfold trX at h
  split at h
  · cases h; exact ix_int
  · cases h; exact ix_bl
  · cases h; exact ix_non
  · cases h; exact ix_str
  · rename_i x p fl p2
    split at h
    · rename_i j nm
      split at h
      · rename_i hx
        subst hx
        split at h
        · rename_i hm
          cases h
          obtain ⟨h1, h2, h3⟩ := hi
          obtain ⟨d1, d2, d3⟩ := plain_of h3
          exact ix_fld g.cls (g.fld _ (memS_of hm)) h1 h2 d1 d2 rfl
        · cases h
      · cases h
    · cases h
  · split at h
    · rename_i t f1 g1 e1 e2 e3
      cases h
      exact ix_if (ih.b g hi e1) (ih.x g hi e2) (ih.x g hi e3)
    · cases h
  · obtain ⟨w', e1, rfl⟩ := map_some h
    exact ix_tup (ih.a g hi e1)
  · obtain ⟨w', e1, rfl⟩ := map_some h
    exact ix_lst (ih.a g hi e1)
  · split at h
    · rename_i f1 g1 e1 e2
      split at h
      · rename_i hb
        cases h
        exact ix_eq (ih.x g hi e1) (ih.x g hi e2) hb
      · cases h
    · cases h
  · obtain ⟨w', e1, rfl⟩ := map_some h
    exact ix_neg (ih.x g hi e1)
  · cases h
theorem sndx_b {n : Nat} {e : Expr} {f : XD → Option Bool} (ih : SndX G n) (g : Good G X W N sc st k) (hi : HdOk X i) (h : trXB G (n + 1) N sc i e = some f) : IXB X G.cls (i.map (fun q : Nat × Str => q.1)) e f := by
  unfold trXB at h
  split at h
  · rename_i f0 p x p2 m p3 p4
    split at h
    · rename_i j nm
      split at h
      · rename_i hf
        subst hf
        split at h
        · rename_i hx
          subst hx
          split at h
          · rename_i hc
            simp only [Bool.and_eq_true] at hc
            obtain ⟨⟨⟨⟨c1, c2⟩, c3⟩, c4⟩, c5⟩ := hc
            cases h
            obtain ⟨h1, h2, h3⟩ := hi
            obtain ⟨d1, d2, d3⟩ := plain_of h3
            obtain ⟨m1, m2, m3⟩ := plain_of c5
            exact ixb_of (ix_is g.cls (memS_of c4) (g.gl c3) (g.gl c1) (g.blt _ (memS_of c2)) h1 h2 d1 d2 m1 rfl rfl rfl) (fun _ _ => rfl)
          · cases h
        · cases h
      · cases h
    · cases h
  · obtain ⟨w', e1, rfl⟩ := map_some h
    exact ixb_not (ih.b g hi e1)
  · split at h
    · rename_i f1 g1 e1 e2
      cases h
      exact ixb_and (ih.b g hi e1) (ih.b g hi e2)
    · cases h
  · split at h
    · rename_i f1 g1 e1 e2
      cases h
      exact ixb_or (ih.b g hi e1) (ih.b g hi e2)
    · cases h
  · cases h
theorem sndx_a {n : Nat} {es : List Expr} {f : XD → Option (List D)} (ih : SndX G n) (g : Good G X W N sc st k) (hi : HdOk X i) (h : trXA G (n + 1) N sc i es = some f) : IXA X G.cls (i.map (fun q : Nat × Str => q.1)) es f := by
  cases es with
  | nil => cases h; exact ixa_nil
  | cons e r =>
    have h' : (if noStar e then match trX G n N sc i e, trXA G n N sc i r with
        | some f, some g => some (faCons f g)
        | _, _ => none
      else none) = some f := h
    split at h'
    · rename_i hs
      split at h'
      · rename_i f1 g1 e1 e2
        cases h'
        exact ixa_cons (ih.x g hi e1) (ih.a g hi e2) (fun env => star_cons hs)
      · cases h'
    · cases h'
end
theorem sndx (G : Gs) : ∀ n : Nat, SndX G n
  | 0 => ⟨(fun _ _ h => by cases h), (fun _ _ h => by cases h), (fun _ _ h => by cases h)⟩
  | n + 1 => have ih := sndx G n
    ⟨fun g hi h => sndx_x ih g hi h, fun g hi h => sndx_b ih g hi h, fun g hi h => sndx_a ih g hi h⟩
end PL
namespace PL
open PySem PySem.Spec L2
/-! ### statements: from the text to the readings -/
/-- is the new list put straight into its name -/
def lcSwap (sc : Scope) (y : Str) (py pos : Pos) (scope : Scope) : Bool := isLocal sc y && (py.line == pos.line) && !(scope.names.any fun (n, k) => n == y && (k == .local || k == .cell))
def isTupE : Expr → Bool
  | .Tuple _ _ _ => true
  | _ => false
theorem sole_tup {t e : Expr} {l : Nat} {env : PySem.Env} (h : isTupE t = true) : swapsWithSole [t] e l env = pure false := by
  cases t with
  | Tuple a b c => cases e <;> rfl
  | _ => cases h
def asgG (G : Gs) (n : Nat) (N : List Str) (sc : Scope) (t e : Expr) : Option WS := if (noComp e || isTupE t) && swNone sc [t] e && noStar t then match trG G n N sc (isLoc sc) t, trE G n N sc (isLoc sc) e with
    | some (g, _), some w => some (sSet w g)
    | _, _ => none
  else none
def trAsg (G : Gs) (n : Nat) (N : List Str) (sc : Scope) (t e : Expr) : Option WS := match t, e with
  | .Name y py, .ListComp _ [⟨_, _, _, 0⟩] scope pos => if lcSwap sc y py pos scope then match ixF y N 0, trE G n N sc (isLoc sc) e with
      | some i, some w => some (sSet w (gVar i))
      | _, _ => none
    else match trG G n N sc (isLoc sc) (.Name y py), trE G n N sc (isLoc sc) e with
      | some (g, _), some w => some (sSet w g)
      | _, _ => none
  | .Tuple [.Name x px, .Name y py] kt pt, .Tuple [a, b] k2 pt2 => if swOk sc [(x, px), (y, py)] [a, b] && !decide (x = y) then match ixF x N 0, ixF y N 0, trA G n N sc (isLoc sc) [a, b] with
      | some i, some j, some w => some (sPar2 i j w)
      | _, _, _ => none
    else asgG G n N sc (.Tuple [.Name x px, .Name y py] kt pt) (.Tuple [a, b] k2 pt2)
  | .Tuple [.Name x px, .Name y py, .Name z pz] kt pt, .Tuple [a, b, c] k2 pt2 => if swOk sc [(x, px), (y, py), (z, pz)] [a, b, c] && (!decide (x = y) && !decide (x = z) && !decide (y = z)) then match ixF x N 0, ixF y N 0, ixF z N 0, trA G n N sc (isLoc sc) [a, b, c] with
      | some i, some j, some k, some w => some (sPar3 i j k w)
      | _, _, _, _ => none
    else asgG G n N sc (.Tuple [.Name x px, .Name y py, .Name z pz] kt pt) (.Tuple [a, b, c] k2 pt2)
  | t, e => asgG G n N sc t e
def stPos : Stmt → Nat × Nat
  | .Assign _ _ p => (p.line, p.col)
  | .Return _ p => (p.line, p.col)
  | .For _ _ _ _ p => (p.line, p.col)
  | .If _ _ _ p => (p.line, p.col)
  | .Expr _ p => (p.line, p.col)
  | .While _ _ _ p => (p.line, p.col)
  | _ => (0, 0)
def ghosts (N : List Str) (st : Stmt) : List (Nat × Nat × Str) → WS → WS
  | [], w => w
  | (l, c, x) :: r, w => if (l, c) = stPos st then (match ixF x N 0 with
    | some i => sPre i (ghosts N st r w)
    | none => ghosts N st r w) else ghosts N st r w
theorem is_ghosts {X : Cx} {W : WX} {st : Stmt} {N : List Str} {w : WS} (h : IS X W st w) : ∀ l : List (Nat × Nat × Str), IS X W st (ghosts N st l w)
  | [] => h
  | (l, c, x) :: r => by
    unfold ghosts
    split
    · split
      · exact is_pre (is_ghosts h r)
      · exact is_ghosts h r
    · exact is_ghosts h r
mutual
def trS (G : Gs) : Nat → List Str → Scope → Stmt → Option WS
  | 0, _, _, _ => none
  | n + 1, N, sc, s => match s with
    | .Pass _ => some sSkip
    | .Break _ => some sBreak
    | .Continue _ => some sCont
    | .Expr (.Constant (.str _) _ _) _ => some sSkip
    | .Expr e _ => if noComp e then (trE G n N sc (isLoc sc) e).map sExpr else none
    | .Return none _ => some sRetN
    | .Return (some e) _ => (trE G n N sc (isLoc sc) e).map sRet
    | .If c a b _ => match trT G n N sc (isLoc sc) c, trSs G n N sc a, trSs G n N sc b with
      | some t, some u, some v => some (sIf t u v)
      | _, _, _ => none
    | .While c b [] _ => match trT G n N sc (isLoc sc) c, trSs G n N sc b with
      | some t, some u => some (sWhile t u)
      | _, _ => none
    | .For tg it b [] _ => if noSet it then match trI G n N sc (isLoc sc) tg it, trG G n N sc (isLoc sc) tg, trSs G n N sc b with
        | some wi, some (g, _), some u => some (sFor wi g u)
        | _, _, _ => none
      else none
    | .Assign [t] e _ => trAsg G n N sc t e
    | .Raise (some (.Call (.Name x _) [a] [] _)) none _ => match findS x G.exc with
      | some f => if isGl sc x && plainName x && noStar a then (trA G n N sc (isLoc sc) [a]).map (sRaise x f) else none
      | none => none
    | .Try b [.ExceptHandler (some (.Name m _)) nm [.Return (some e) _] _] [] [] _ => if isGl sc m && plainName m && memS m G.cls then match nm with
        | some nm => if isLocal sc nm && plainName nm then match ixF nm N 0 with
            | some j => match trSs G n N sc b, trX G n N sc (some (j, nm)) e with
              | some u, some f => some (sTry G.cls G.sub m (some j) u f)
              | _, _ => none
            | none => none
          else none
        | none => match trSs G n N sc b, trX G n N sc none e with
          | some u, some f => some (sTry G.cls G.sub m none u f)
          | _, _ => none
      else none
    | _ => none
def trSs (G : Gs) : Nat → List Str → Scope → List Stmt → Option WS
  | 0, _, _, _ => none
  | n + 1, N, sc, ss => match ss with
    | [] => some sSkip
    | s :: r => match r with
      | [] => (trS G n N sc s).map (ghosts N s G.frz)
      | s2 :: r2 => match trS G n N sc s, trSs G n N sc (s2 :: r2) with
        | some u, some v => some (sSeq (ghosts N s G.frz u) v)
        | _, _ => none
end
/-- a def's context -/
structure GoodS (G : Gs) (X : Cx) (W : WX) (N : List Str) (sc : Scope) (k : Nat) : Prop where
  good : Good G X W N sc (isLoc sc) k
  stk : X.stack = X.env :: X.outer
  frm : X.env.frame = some X.env.locals
  pas : PassesOwn (model X.prog X.w) X.A X.env X.xe
  kind : sc.kind = .function
  fnT : ∀ x, X.fn x = true
structure SndS (G : Gs) (n : Nat) : Prop where
  s : ∀ {X W N sc k s w}, GoodS G X W N sc k → trS G n N sc s = some w → IS X W s w
  ss : ∀ {X W N sc k s w}, GoodS G X W N sc k → trSs G n N sc s = some w → ISs X W s w
theorem loc_store {x : Str} {sc : Scope} {fn : Str → Bool} (hf : ∀ x, fn x = true) (h : isLoc sc x = true) : Loc sc x ∧ (fn x = true ∨ sc.names.lookup x = some .local) := ⟨loc_of h, .inl (hf x)⟩
theorem GoodS.tr {G : Gs} {X : Cx} {W W' : WX} {N : List Str} {sc : Scope} {k : Nat} (g : GoodS G X W N sc k) {pn : List (Addr × Obj)} {xe : Value → Shared → Prop} (tk : Takes (X.tr pn xe) W') (pa : PassesOwn (model X.prog X.w) X.A X.env xe) : GoodS G (X.tr pn xe) W' N sc k where
  good := { hN := g.good.hN, hsc := g.good.hsc, nd := g.good.nd, calm := g.good.calm, room := g.good.room, takes := tk, fns := g.good.fns, blt := g.good.blt, imp := g.good.imp, cst := g.good.cst, exc := g.good.exc, cls := ⟨g.good.cls.cls, g.good.cls.isa⟩, fld := g.good.fld, obj := g.good.obj, eqs := g.good.eqs, store := g.good.store }
  stk := g.stk
  frm := g.frm
  pas := pa
  kind := g.kind
  fnT := g.fnT
theorem ix_at {x : Str} {N : List Str} {i : Nat} (h : ixF x N 0 = some i) : N[i]? = some x := by
  obtain ⟨k, e, q⟩ := ixF_of h
  rw [Nat.zero_add] at e
  rw [e]
  exact q
theorem sole_of {t e : Expr} {l : Nat} {env : PySem.Env} (h : noComp e = true) : swapsWithSole [t] e l env = pure false := swap_of h
theorem all3 {p : Expr → Bool} {a b c : Expr} (h : [a, b, c].all p = true) : p a = true ∧ p b = true ∧ p c = true := by
  simp only [List.all_cons, List.all_nil, Bool.and_true, Bool.and_eq_true] at h
  exact h
theorem ne_of_dec {x y : Str} (h : (!decide (x = y)) = true) : x ≠ y := by simpa using h
section
variable {G : Gs} {X : Cx} {W : WX} {N : List Str} {sc : Scope} {k n : Nat}
theorem ne_ix {x y : Str} {i j : Nat} (hi : N[i]? = some x) (hj : N[j]? = some y) (h : x ≠ y) : i ≠ j := fun z => by
  subst z
  rw [hi] at hj
  cases hj
  exact h rfl
theorem sw_false {elt : Expr} {gs : List Comprehension} {scope : Scope} {pos py : Pos} {y : Str} {l : Nat} {env : PySem.Env} (hsc : env.scope = sc) (hk : sc.kind = .function) (h : lcSwap sc y py pos scope = false) : swapsWith (.ListComp elt gs scope pos) (some (.Name y py)) l env = pure false := by
  have hl : (env.kindOf y == some NameKind.local) = isLocal sc y := by
    show (env.scope.names.lookup y == some NameKind.local) = _
    rw [hsc]
    unfold isLocal
    cases e : sc.names.lookup y with
    | none => rfl
    | some k => cases k <;> rfl
  have hb : env.blockKind = .function := by unfold Env.blockKind; rw [hsc, hk]; rfl
  unfold lcSwap at h
  unfold swapsWith
  simp only [hb, hl, Expr.pos]
  have e1 : ∀ k : Bool, k = true → (k && isLocal sc y && py.line == pos.line && !(scope.names.any fun (n, k) => n == y && (k == .local || k == .cell))) = false := fun k hk => by
    rw [hk, Bool.true_and]
    exact h
  exact congrArg pure (e1 _ rfl)
theorem snd_asgG {t e : Expr} {pos : Pos} {w : WS} (g : GoodS G X W N sc k) (h : asgG G n N sc t e = some w) : IS X W (.Assign [t] e pos) w := by
  unfold asgG at h
  split at h
  · rename_i hc
    simp only [Bool.and_eq_true] at hc
    obtain ⟨⟨h1, h2⟩, h3⟩ := hc
    split at h
    · rename_i gt l w1 e1 e2
      cases h
      refine is_set ((snd G n).e g.good e2) ((snd G n).g g.good e1 (l := l) fun i hi => hi) ((Bool.or_eq_true _ _ ▸ h1).elim (fun z => sole_of z) (fun z => sole_tup z)) (sw_none g.good.hsc h2) ?_
      cases t <;> first | rfl | cases h3
    · cases h
  · cases h
theorem snd_asg {t e : Expr} {pos : Pos} {w : WS} (g : GoodS G X W N sc k) (h : trAsg G n N sc t e = some w) : IS X W (.Assign [t] e pos) w := by
  unfold trAsg at h
  split at h
  · rename_i y py elt tg iter ifs scope p2
    split at h
    · rename_i hc
      unfold lcSwap at hc
      simp only [Bool.and_eq_true, Bool.not_eq_true'] at hc
      obtain ⟨⟨h1, h2⟩, h3⟩ := hc
      split at h
      · rename_i i w1 e1 e2
        cases h
        cases n with
        | zero => cases e2
        | succ n =>
          have e2' : (if blkC N sc scope (ownOf N scope.names) && noSet iter then
              match trI G n N sc (isLoc sc) tg iter, trG G n N (relS scope sc) (isLoc scope) tg, trIf G n N (relS scope sc) (isLoc scope) ifs, trE G n N (relS scope sc) (isLoc scope) elt with
              | some wi, some (g, l), some t, some w => if l.all (fun i => ((ownOf N scope.names).map (fun q : Str × Nat => q.2)).contains i) then some ((if memN (p2.line, p2.col + 1000000) G.muts then wLcN else wLc) wi g t w ((ownOf N scope.names).map (fun q : Str × Nat => q.2))) else none
              | _, _, _, _ => none
            else none) = some w1 := e2
          have ih := snd G n
          have gg := g.good
          split at e2'
          · rename_i hc
            rw [Bool.and_eq_true] at hc
            split at e2'
            · rename_i wi gt l t w2 f1 f2 f3 f4
              split at e2'
              · rename_i hl
                cases e2'
                have ok : BlkOk X.N X.env.scope scope (ownOf N scope.names) := by
                  rw [gg.hN, gg.hsc]
                  exact blkOk_by hc.1
                split
                · refine is_setLcN (own := ownOf N scope.names) gg.calm gg.ndX (by rw [gg.hN]; exact ix_at e1) (by rw [gg.hsc]; exact local_of h1) (sw_true (by rw [gg.hsc]; exact g.kind) (by rw [gg.hsc]; exact local_of h1) h2 h3) (ih.i gg f1) ok (fun s H C cl fp => ih.g (gg.blk scope s H C cl fp) f2 fun i hi => ?_) (fun s H C cl fp => ih.f (gg.blk scope s H C cl fp) f3) (fun s H C cl fp => ih.e (gg.blk scope s H C cl fp) f4) (set_iter hc.2)
                  exact List.contains_iff_mem.mp (List.all_eq_true.mp hl i hi)
                · refine is_setLc (own := ownOf N scope.names) gg.calm gg.ndX (by rw [gg.hN]; exact ix_at e1) (by rw [gg.hsc]; exact local_of h1) (sw_true (by rw [gg.hsc]; exact g.kind) (by rw [gg.hsc]; exact local_of h1) h2 h3) (ih.i gg f1) ok (fun s H C cl fp => ih.g (gg.blk scope s H C cl fp) f2 fun i hi => ?_) (fun s H C cl fp => ih.f (gg.blk scope s H C cl fp) f3) (fun s H C cl fp => ih.e (gg.blk scope s H C cl fp) f4) (set_iter hc.2)
                  exact List.contains_iff_mem.mp (List.all_eq_true.mp hl i hi)
              · cases e2'
            · cases e2'
          · cases e2'
      · cases h
    · rename_i hc
      have hc' : lcSwap sc y py p2 scope = false := by
        cases q : lcSwap sc y py p2 scope with
        | false => rfl
        | true => exact absurd q hc
      split at h
      · rename_i gt l w1 e1 e2
        cases h
        exact is_set ((snd G n).e g.good e2) ((snd G n).g g.good e1 (l := l) fun i hi => hi) (sw_false (l := pos.line) g.good.hsc g.kind hc') (sw_none g.good.hsc rfl) rfl
      · cases h
  · rename_i x px y py kt pt a b k2 pt2
    split at h
    · rename_i hc
      rw [Bool.and_eq_true] at hc
      split at h
      · rename_i i j w1 e1 e2 e3
        cases h
        have hne := ne_of_dec hc.2
        have hs := hc.1
        have q := hs
        unfold swOk at q
        simp only [Bool.and_eq_true, Bool.not_eq_true', List.all_cons, List.all_nil, Bool.and_true, List.head?_cons, Option.map_some, Option.getD_some] at q
        obtain ⟨⟨⟨⟨_, _⟩, ⟨hx, _⟩, hy, _⟩, _⟩, _⟩ := q
        have gg := g.good
        exact is_par2 gg.calm gg.ndX (by rw [gg.hN]; exact ix_at e1) (by rw [gg.hN]; exact ix_at e2) (ne_ix (ix_at e1) (ix_at e2) hne) (by rw [gg.hsc]; exact local_of hx) (by rw [gg.hsc]; exact local_of hy) ((snd G n).a gg e3) (sw_two gg.hsc (by rw [gg.hsc]; exact g.kind) hne hs) (sole_of rfl)
      · cases h
    · exact snd_asgG g h
  · rename_i x px y py z pz kt pt a b c k2 pt2
    split at h
    · rename_i hc
      simp only [Bool.and_eq_true] at hc
      obtain ⟨hs, ⟨c1, c2⟩, c3⟩ := hc
      split at h
      · rename_i i j l w1 e1 e2 e3 e4
        cases h
        have q := hs
        unfold swOk at q
        simp only [Bool.and_eq_true, Bool.not_eq_true', List.all_cons, List.all_nil, Bool.and_true, List.head?_cons, Option.map_some, Option.getD_some] at q
        obtain ⟨⟨⟨⟨_, _⟩, ⟨hx, _⟩, ⟨hy, _⟩, hz, _⟩, _⟩, _⟩ := q
        have gg := g.good
        have nxy := ne_of_dec c1
        have nxz := ne_of_dec c2
        have nyz := ne_of_dec c3
        exact is_par3 gg.calm gg.ndX (by rw [gg.hN]; exact ix_at e1) (by rw [gg.hN]; exact ix_at e2) (by rw [gg.hN]; exact ix_at e3) (ne_ix (ix_at e1) (ix_at e2) nxy) (ne_ix (ix_at e1) (ix_at e3) nxz) (ne_ix (ix_at e2) (ix_at e3) nyz) (by rw [gg.hsc]; exact local_of hx) (by rw [gg.hsc]; exact local_of hy) (by rw [gg.hsc]; exact local_of hz) ((snd G n).a gg e4) (sw_three gg.hsc (by rw [gg.hsc]; exact g.kind) nxy nxz nyz hs) (sole_of rfl)
      · cases h
    · exact snd_asgG g h
  · exact snd_asgG g h
theorem snds_s (ih : SndS G n) {s : Stmt} {w : WS} (g : GoodS G X W N sc k) (h : trS G (n + 1) N sc s = some w) : IS X W s w := by
  have sn := snd G n
  have gg := g.good
  unfold trS at h
  split at h
  · cases h; exact is_pass
  · cases h; exact is_break
  · cases h; exact is_cont
  · cases h; exact is_doc
  · split at h
    · rename_i hc
      obtain ⟨w', e1, rfl⟩ := map_some h
      exact is_expr (sn.e gg e1) (swap_of hc)
    · cases h
  · cases h; exact is_retN
  · obtain ⟨w', e1, rfl⟩ := map_some h
    exact is_ret (sn.e gg e1)
  · split at h
    · rename_i t u v e1 e2 e3
      cases h
      exact is_if (sn.t gg e1) (ih.ss g e2) (ih.ss g e3)
    · cases h
  · split at h
    · rename_i t u e1 e2
      cases h
      exact is_while g.pas (sn.t gg e1) (ih.ss g e2)
    · cases h
  · split at h
    · rename_i hs
      split at h
      · rename_i wi gt l u e1 e2 e3
        cases h
        exact is_for g.pas gg.calm (sn.i gg e1) (sn.g gg e2 (l := l) fun i hi => hi) (ih.ss g e3) (set_iter hs)
      · cases h
    · cases h
  · exact snd_asg g h
  · split at h
    · rename_i f ef
      split at h
      · rename_i hc
        simp only [Bool.and_eq_true] at hc
        obtain ⟨⟨c1, c2⟩, c3⟩ := hc
        obtain ⟨w', e1, rfl⟩ := map_some h
        obtain ⟨C, fI, T, O⟩ := gg.exc _ (findS_of ef)
        exact is_raise T O (by have := gg.room.room.dp; omega) gg.calm gg.takes (sn.a gg e1) (gg.gl c1) (plain_of c2).1 (star_cons c3)
      · cases h
    · cases h
  · rename_i b m np nm e p p2 p3
    split at h
    · rename_i hc
      simp only [Bool.and_eq_true] at hc
      obtain ⟨⟨c1, c2⟩, c3⟩ := hc
      split at h
      · rename_i nm
        split at h
        · rename_i hn
          rw [Bool.and_eq_true] at hn
          split at h
          · rename_i j ej
            split at h
            · rename_i u f e1 e2
              cases h
              have hl := local_of hn.1
              have hk : X.env.kindOf nm = some .local := by
                show X.env.scope.names.lookup nm = _
                rw [gg.hsc]; exact hl
              exact is_try_as gg.cls (memS_of c3) g.stk g.frm gg.ndX (by rw [gg.hN]; exact ix_at ej) hk (gg.gl c1) (plain_of c2).1 gg.takes (fun W' pn xe tk pa => ih.ss (g.tr tk pa) e1) ((sndx G n).x gg (i := some (j, nm)) ⟨by rw [gg.hN]; exact ix_at ej, .inl hk, hn.2⟩ e2)
            · cases h
          · cases h
        · cases h
      · split at h
        · rename_i u f e1 e2
          cases h
          exact is_try gg.cls (memS_of c3) g.stk g.frm (gg.gl c1) (plain_of c2).1 gg.takes (fun W' pn xe tk pa => ih.ss (g.tr tk pa) e1) ((sndx G n).x gg (i := none) trivial e2)
        · cases h
    · cases h
  · cases h
theorem snds_ss (ih : SndS G n) {s : List Stmt} {w : WS} (g : GoodS G X W N sc k) (h : trSs G (n + 1) N sc s = some w) : ISs X W s w := by
  cases s with
  | nil => cases h; exact is_nil
  | cons s r =>
    cases r with
    | nil =>
      obtain ⟨w', e1, rfl⟩ := map_some (show (trS G n N sc s).map (ghosts N s G.frz) = some w from h)
      exact is_one (is_ghosts (ih.s g e1) _)
    | cons s2 r2 =>
      have h' : (match trS G n N sc s, trSs G n N sc (s2 :: r2) with
        | some u, some v => some (sSeq (ghosts N s G.frz u) v)
        | _, _ => none) = some w := h
      split at h'
      · rename_i u v e1 e2
        cases h'
        exact is_cons (is_ghosts (ih.s g e1) _) (ih.ss g e2)
      · cases h'
end
theorem snds (G : Gs) : ∀ n : Nat, SndS G n
  | 0 => ⟨(fun _ h => by cases h), (fun _ h => by cases h)⟩
  | n + 1 => have ih := snds G n
    ⟨fun g h => snds_s ih g h, fun g h => snds_ss ih g h⟩
end PL
namespace PL
open PySem PySem.Spec L2
/-! ### a def, from its text -/
def startD (N : List Str) (ds : List D) : Env := ds.map some ++ List.replicate (N.length - ds.length) none
def shrP (P : PD) : PD := fun d S' => ∃ S0, Sub S0 S' ∧ P d S0
def shrX (X : PX) : PX := fun x S' => ∃ S0, Sub S0 S' ∧ X x S0
/-- the body's reading does what the contract says -/
def Does (c : Con) (u : WS) (N : List Str) (n : Nat) : Prop := ∀ ds S P X, c ds S P X → ds.length = n ∧ u { nx := fun _ S' => shrP P .non S', rt := shrP P } (fun x _ S' => shrX X x S') (startD N ds) S
theorem startD_rep {K : PySem.W.Frag} {H : Hp} {N : List Str} {vs : List V} {ds : List D} (r : RepL K H vs ds) : RepE K H (L2.start N vs) (startD N ds) := by
  have e := r.length
  refine ⟨by unfold L2.start startD; rw [List.length_append, List.length_append, List.length_map, List.length_map, e, List.length_replicate, List.length_replicate], fun i d h => ?_⟩
  unfold startD at h
  by_cases hi : i < ds.length
  · rw [List.getElem?_append_left (by rw [List.length_map]; exact hi), List.getElem?_map] at h
    cases e2 : ds[i]? with
    | none => rw [e2] at h; cases h
    | some d2 =>
      rw [e2] at h
      cases h
      obtain ⟨v, ev, rv⟩ := r.get e2
      refine ⟨v, ?_, rv⟩
      unfold L2.start
      rw [List.getElem?_append_left (by rw [List.length_map, e]; exact hi), List.getElem?_map, ev]
      rfl
  · rw [List.getElem?_append_right (by rw [List.length_map]; omega), List.getElem?_replicate] at h
    split at h <;> cases h
/-- the written part, and what is known of its defs -/
structure Tab (P : Program) (w : World) (K : PySem.W.Frag) (mg : Str → Option Value) (base : Heap) (G : Gs) (k : Nat) : Prop where
  fns : ∀ e ∈ G.fns, ∃ f fd, mg e.name = some (.ref f) ∧ PySem.W.keepIn K (.ref f) = true ∧ FnG P w K mg base k f fd e.ps e.con ∧ ∀ q ∈ e.pats, BindsK fd e.ps q.1 q.2
  blt : ∀ x ∈ G.blt, mg x = none
  imp : ∀ q ∈ G.imp, mg q.1 = some (.builtin q.2)
  cst : ∀ q ∈ G.cst, ∃ v u, mg q.1 = some u ∧ RelV v u ∧ ∀ H, Rep K H v q.2
  exc : ∀ q ∈ G.exc, ∃ C fI, PX.ExTxt P K mg q.1 q.2 C fI ∧ PX.FldOk q.2
  cls : ∀ n ∈ G.cls, ∃ C, mg n = some (.ref C) ∧ ExcC K C ∧ PySem.W.typeIn K (.ref C) = some (.type "type")
  isa : ∀ n ∈ G.cls, ∀ m ∈ G.cls, ∀ C D, mg n = some (.ref C) → mg m = some (.ref D) → PySem.W.subIn K (.ref C) (.ref D) = some (G.sub n m) ∧ PySem.W.kitOne K (.ref C) (.ref D) = some (G.sub n m)
  fld : ∀ f ∈ G.flds, ∀ n ∈ G.cls, ∀ C, mg n = some (.ref C) → PySem.W.findIn K (.ref C) f = some none
  obj : ∀ q ∈ G.obj, q.2.Nodup ∧ 2 ≤ k ∧ ObjE P w K mg base q
  eqs : ∀ q ∈ G.eqs, 1 ≤ k ∧ EqE P w K mg base q
section
variable {P : Program} {w : World} {K : PySem.W.Frag} {mg : Str → Option Value} {base : Heap} {G : Gs} {k n : Nat} {N ps : List Str} {qual name : Str} {scope : Scope} {params : Arguments} {body : List Stmt} {f : Addr} {dV kV doc pm cdv ct oc : Value} {an od : Option Addr} {osl : Array (Option Value)}
theorem FnG.mono {j : Nat} {fd : FuncData} {c : Con} (F : FnG P w K mg base j f fd ps c) (h : j ≤ k) : FnG P w K mg base k f fd ps c := fun A outer s H args us vs Q E hr => F A outer s H args us vs Q E (hr.mono h)
theorem Tab.goodS (T : Tab P w K mg base G k) (S : FnScope N ps scope) {A : Around} {outer : List PySem.Env} {s : Shared} {H : Hp} {E : XK} (hr : RoomG k (A.deeper (PyProof.Rows.envOfC qual scope s.heap.objs.size f cdv))) :
    GoodS G (cxOf (L2.CX P w) P w K mg base N qual scope f cdv A outer s H E) (fun cls d _ H' => E cls d H') N scope k where
  good := { hN := rfl, hsc := rfl, nd := S.nd, calm := rfl, room := hr, takes := takes_of rfl rfl rfl rfl, fns := T.fns, blt := T.blt, imp := T.imp, cst := T.cst, exc := T.exc, cls := ⟨T.cls, T.isa⟩, fld := T.fld, obj := fun q hq => let ⟨a, b, c⟩ := T.obj q hq; ⟨a, hr.room.mono b, c⟩, eqs := fun q hq => let ⟨b, c⟩ := T.eqs q hq; ⟨hr.room.mono b, c⟩, store := fun x hx => loc_store (fun _ => rfl) hx }
  stk := rfl
  frm := rfl
  pas := passes_of rfl
  kind := S.kind
  fnT := fun _ => rfl
theorem fn_G {u : WS} {c : Con} (lk : K.lookup f = some ⟨oc, od, .func (PySem.W.fnOf name qual params body scope dV kV doc pm an cdv ct), osl⟩) (hcd : PySem.W.codeIn K cdv qual = true) (S : FnScope N ps scope) (T : Tab P w K mg base G k)
    (tr : trSs G n N scope body = some u) (im : Does c u N ps.length) : FnG P w K mg base (k + 1) f (PySem.W.fnOf name qual params body scope dV kV doc pm an cdv ct) ps c := by
  intro A outer s H args us vs Q E hg e0 hb r hl ⟨ds, S0, Pd, Xd, rl, rs, hc, hq, hx⟩
  have hr := hg.room
  have inK : K.In s.heap := e0.mod.kin.keeps fun b o e => (e0.bs b o e).1
  have nol : s.heap.NoLimit := e0.mod.nolimit.keeps fun b o e => (e0.bs b o e).1
  have kinds : ∀ y ∈ ps.zip us, scope.names.lookup y.1 = some .local ∨ (scope.names.lookup y.1 = some .cell ∧ ((cellsFrom (s.heap.objs.size + 1) scope.names []).lookup y.1).isSome = true) := fun ⟨m, v⟩ hy => by
    rcases S.par m (List.of_mem_zip hy).1 with q | q
    · exact .inl q
    · exact .inr ⟨q, PySem.W.cellsFrom_some _ _ _ (.inl q)⟩
  refine codeAny_call_function hr.depth (inK _ _ lk) rfl S.co S.gen rfl (PySem.W.codeRec_of inK hcd) (hb _ _ _ _ ?_)
  refine wpAny_newFunctionEnv_cells S.kind kinds fun env he s1 x => ?_
  subst he
  refine ⟨nol.keeps x.toInCall.keep, codeAny_func ?_⟩
  obtain ⟨_, hu⟩ := im ds S0 Pd Xd hc
  have I : Inv (cxOf (L2.CX P w) P w K mg base N qual scope f cdv A outer s H E) [] (L2.start N vs) H s1 := inv_start S hr.hd e0 hl r x
  have hgd : RoomG k (A.deeper (PyProof.Rows.envOfC qual scope s.heap.objs.size f cdv)) := ⟨hr.deeper _, hg.gd⟩
  have go := (snds G n).ss (T.goodS (qual := qual) (f := f) (cdv := cdv) (outer := outer) (H := H) (E := E) S hgd) tr
  refine wpAny_mono (go.run [] s1 (L2.start N vs) H { nx := fun _ H' => Q .non H', rt := Q } I ⟨startD N ds, S0, _, _, startD_rep rl, rs, hu, ⟨fun env S' σ H' ⟨S2, sb, p⟩ e1 _ s1 => hq .non S2 _ H' p e1 .non (s1.sub sb), fun d S' v H' ⟨S2, sb, p⟩ e1 r1 s1 => hq d S2 v H' p e1 r1 (s1.sub sb), fun _ _ _ _ z => z.elim, fun _ _ _ _ z => z.elim⟩, fun x env S' cls dd σ H' ⟨S2, sb, p⟩ e1 _ rx s1 => hx x S2 cls dd H' p e1 rx (s1.sub sb)⟩) (fun fl s' hs => ?_) fun e s' hs => hs
  cases fl with
  | ret u =>
    obtain ⟨v, σ', H', J, rv, q⟩ := hs
    exact ⟨v, H', J.os, J.bare, J.base, J.hok, rv, q⟩
  | next =>
    obtain ⟨σ', H', J, q⟩ := hs
    exact ⟨V.non, H', J.os, J.bare, J.base, J.hok, rfl, q⟩
  | brk =>
    obtain ⟨_, _, _, q⟩ := hs
    exact False.elim q
  | cont =>
    obtain ⟨_, _, _, q⟩ := hs
    exact False.elim q
end
end PL
namespace PL
open PySem PySem.Spec L2 PyProof.Rows
/-! ### the end of a law -/
abbrev D0 (ns : List Int) : D := PL.D.lst (ns.map PL.D.int)
theorem ints_rep {K : PySem.W.Frag} {H : Hp} : ∀ ns : List Int, RepL K H (ns.map V.int) (ns.map PL.D.int)
  | [] => .nil
  | n :: r => .cons (.int n) (ints_rep r)
theorem script_rep {K : PySem.W.Frag} {H : Hp} {a : Addr} {ns : List Int} (hO : Only H) (h : SqL K H a (ns.map V.int)) : Rep K H (.ref a) (D0 ns) := by
  refine .lst ?_ (ints_rep ns)
  rcases h with (h | h) | h
  · rcases hO a with z | ⟨o, xs, z⟩
    · rw [h] at z; cases z
    · rw [h] at z; cases z
  · exact .inl h
  · exact .inr h
/-- the contract that a law's def is to hold -/
def LawC : Con := fun ds S P _ => ∃ ns : List Int, ns.length ≤ 63 ∧ (∀ z ∈ ns, Builtin.Int.intBits z ≤ 1048576) ∧ ds = [D0 ns] ∧ (∀ a, S a = none) ∧ ∀ S', P (.bl true) S'
theorem law_end {P : Program} {w : World} {K : PySem.W.Frag} {mg mb : Str → Option Value} {k : Nat} {fa a : Addr} {fd : FuncData} {x : Str} {s₁ : Shared} {vs : List Value} {ns : List Int}
    (KX : K.In s₁.heap) (hns : s₁.heap.Ns mainGlobals mg) (hb : s₁.heap.Ns builtinsNs mb) (hbb : ∀ x : Str, x ≠ "__name__" → mb x = bootBuiltins x) (hlim : s₁.heap.NoLimit) (hg : s₁.gens = #[])
    (ha : s₁.heap.get? a = some { cls := .type "list", data := .seq vs.toArray }) (hi : IntsAre vs ns) (hl : ns.length ≤ 63) (hbits : ∀ z ∈ ns, Builtin.Int.intBits z ≤ 1048576) (hr : RoomG k callerA)
    (F : ∀ base : Heap, K.In base → base.Ns mainGlobals mg → FnG P w K mg base k fa fd [x] LawC) (hbind : ∀ (s : Shared) (u : Value), BindsTo s fd ⟨[u], []⟩ [(x, u)]) :
    codeAny (model P w) callerA (.call (.ref fa) ⟨[.ref a], []⟩) (fun r s' => r = .ok (.ret (.bool true)) ∧ OldK s₁.heap s'.heap ∧ s'.os = s₁.os ∧ AllBare s'.gens) s₁ := by
  have rv := vals_ints hi
  have lenV := hi.length
  have hl' : ns.length ≤ sizeLine := by rw [sizeLine_eq]; omega
  have main : ∀ H : Hp, Only H → SqL K H a (ns.map V.int) → HOk P w H s₁.heap → (∀ b, H b ≠ none → b = a) → (H a ≠ none → K.lookup a = none) →
      codeAny (model P w) callerA (.call (.ref fa) ⟨[.ref a], []⟩) (fun r s' => r = .ok (.ret (.bool true)) ∧ OldK s₁.heap s'.heap ∧ s'.os = s₁.os ∧ AllBare s'.gens) s₁ := by
    intro H only sq hok one free
    have under : ∀ {b : Addr} {o : Obj}, s₁.heap.get? b = some o → H b = none → (hidT s₁.heap H).get? b = some o := fun e n => hidT_get e n
    have dictN : ∀ {b : Addr} {o : Obj} {es : Array DictEntry} {ep : Nat}, s₁.heap.get? b = some o → o.data = .dict es ep → H b = none := fun {b o es ep} e d => by
      cases q : H b with
      | none => rfl
      | some u =>
        have eb : b = a := one b (by rw [q]; simp)
        rw [eb, ha] at e
        cases e
        cases (show Data.seq vs.toArray _ = Data.dict es ep from d)
    have nsU : ∀ {b : Addr} {m : Str → Option Value}, s₁.heap.Ns b m → (hidT s₁.heap H).Ns b m := fun {b m} ⟨o, es, ep, e, d, r⟩ => ⟨o, es, ep, under e (dictN e d), d, r⟩
    have inU : K.In (hidT s₁.heap H) := fun b o e => under (KX b o e) (by
      cases q : H b with
      | none => rfl
      | some u =>
        have eb : b = a := one b (by rw [q]; simp)
        rw [eb, free (by rw [← eb, q]; simp)] at e
        cases e)
    have hM : Mod K mg (hidT s₁.heap H) := ⟨inU, nsU hns, ⟨mb, nsU hb, hbb⟩, let ⟨mc, h1, h2⟩ := hlim; ⟨mc, nsU h1, h2⟩⟩
    have env : Env0 P w K mg (hidT s₁.heap H) callerA [] s₁ H := ⟨rfl, hM, fun b o e => of_hidT e, Nat.le_of_eq (hidT_size _ _), trivial, fun b hb => absurd (show b ∈ ([] : List Addr) from hb) (by simp), hok, .of_eq hg⟩
    have want : spI K mg LawC [.ref a] H (fun v _ => v = .bl true) (fun _ _ _ => False) :=
      ⟨[D0 ns], fun _ => none, fun d _ => d = .bl true, fun _ _ => False, .cons (script_rep only sq) .nil, (fun _ _ z => by cases z), ⟨ns, hl, hbits, rfl, fun _ => rfl, fun _ => rfl⟩, fun d S v H' p _ r _ => by rw [p] at r; cases r; rfl, fun _ _ _ _ _ z => z.elim⟩
    refine codeAny_mono (F _ inU (nsU hns) callerA [] s₁ H ⟨[.ref a], []⟩ [.ref a] [.ref a] _ _ hr env (hbind s₁ (.ref a)) (.cons rfl .nil) rfl want) fun r s' h => ?_
    cases r with
    | error e =>
      obtain ⟨_, _, _, _, _, _, _, _, _, _, _, _, z⟩ := h
      exact z.elim
    | ok fl =>
      cases fl with
      | ret u =>
        obtain ⟨v, H', os, bare, un, hok', r', q⟩ := h
        have q' : v = .bl true := q
        subst q'
        obtain rfl : u = Value.bool true := r'
        refine ⟨rfl, OldK.of_keep fun b o e => ?_, os, bare⟩
        cases q : H b with
        | none => exact un.keep b o e q (by intro z; exact absurd (show b ∈ ([] : List Addr) from z) (by simp)) (by simp)
        | some u =>
          rcases only b with z | ⟨ob, xs, z⟩
          · rw [q] at z; cases z
          · obtain ⟨e1, _⟩ := hok b _ z
            obtain ⟨e2, _⟩ := hok' b _ (un.frzs b ob _ z)
            rw [e] at e1
            cases e1
            exact e2
      | next => exact False.elim h
      | brk => exact False.elim h
      | cont => exact False.elim h
  cases hk : K.lookup a with
  | some o =>
    have e := KX a o hk
    rw [ha] at e
    cases e
    exact main (fun _ => none) (fun _ => .inl rfl) (.inr ⟨_, vs.toArray, _, hk, rfl, rfl, rfl, by rw [List.size_toArray, lenV]; exact hl', by simpa using rv⟩) (fun b u z => by cases (show (none : Option HO) = some u from z)) (fun b z => absurd rfl z) fun z => absurd rfl z
  | none =>
    have at_a : ∀ {o : HO}, (fun b => if b = a then some o else none : Hp) a = some o := fun {o} => if_pos rfl
    have off_a : ∀ {o : HO} {b : Addr}, b ≠ a → (fun b => if b = a then some o else none : Hp) b = none := fun {o b} h => if_neg h
    refine main (fun b => if b = a then some (.frz { cls := .type "list", data := .seq vs.toArray } (.lst (ns.map V.int))) else none) (fun b => ?_) (.inl (.inr ⟨{ cls := .type "list", data := .seq vs.toArray }, at_a⟩)) (fun b u z => ?_) (fun b z => ?_) fun _ => hk
    · by_cases hb : b = a
      · exact .inr ⟨_, _, if_pos hb⟩
      · exact .inl (off_a hb)
    · by_cases hb : b = a
      · rw [hb] at z ⊢
        have z' := at_a.symm.trans z
        cases z'
        exact ⟨ha, by rw [List.length_map]; exact hl', vs, _, rv, ha⟩
      · have z' := (off_a hb).symm.trans z
        cases z'
    · by_cases hb : b = a
      · exact hb
      · exact absurd (off_a hb) z
/-- the goal that the head leaves -/
theorem walk_G {l : PySem.W.OpenLaw} {k : Nat} {q : Program} {loose : List Str} {XP : (Str → Option Value) → Heap → Prop} {YP : World → Heap → Prop} {d : DefRec} {K : Params → PySem.W.Frag} {x : Str}
    (hn : l.most = some 63) (hdf : d.params.defaults = []) (hr : RoomG k callerA) (hY : ∀ (w : World) (h : Heap), YP w h → (K w.params).In h)
    (F : ∀ (w : World) (mg : Str → Option Value) (fa : Addr) (h : Heap), (K w.params).In h → h.Ns mainGlobals mg → mg d.name = some (.ref fa) →
      ∃ fd : FuncData, (∀ (s : Shared) (u : Value), BindsTo s fd ⟨[u], []⟩ [(x, u)]) ∧
        ∀ base : Heap, (K w.params).In base → base.Ns mainGlobals mg → FnG l.prog w (K w.params) mg base k fa fd [x] LawC) :
    PySem.W.WalkO q loose XP YP l.row.toRowW d [] (fun f vs => PySem.call f vs) := by
  refine Att.attach_callB hn hdf fun w s₀ s₁ mg mb fa o pm cd doc a vs ns G Y ho hd hcd hmg hobj hints hlen hbits hg => ?_
  obtain ⟨fd, hb, hF⟩ := F w mg fa _ (hY w _ Y) G.T.g hmg
  exact law_end (hY w _ Y) G.T.g G.T.b G.T.builtins G.T.nolimit hg hobj hints hlen hbits hr hF hb
end PL
namespace PL
open PySem PySem.Spec L2
/-! ### the written part, def by def -/
theorem all_nil {α : Type} {p : α → Prop} : ∀ e ∈ ([] : List α), p e := fun _ h => by cases h
theorem all_cons {α : Type} {p : α → Prop} {a : α} {l : List α} (h : p a) (r : ∀ e ∈ l, p e) : ∀ e ∈ a :: l, p e := fun e he => by
  rcases List.mem_cons.mp he with rfl | he
  · exact h
  · exact r e he
structure DefF (K : PySem.W.Frag) (x : Str) (st : Stmt) (f : Addr) (fd : FuncData) : Prop where
  a : PySem.W.nsIn K mainGlobals x = some (some (.ref f))
  ex : ∃ (oc : Value) (od : Option Addr) (doc pm : Value) (an : Option Addr) (cd ct : Value) (osl : Array (Option Value)), fd = PySem.W.fnOf x x (defArgs st) (defBody st) (defScope st) .none .none doc pm an cd ct ∧ K.lookup f = some ⟨oc, od, .func fd, osl⟩ ∧ PySem.W.codeIn K cd x = true
  kp : PySem.W.keepIn K (.ref f) = true
def DefE (K : PySem.W.Frag) (x : Str) (st : Stmt) : Prop := ∃ f fd, DefF K x st f fd
theorem defE {K : PySem.W.Frag} {x : Str} {st : Stmt} {f : Addr} {oc : Value} {od : Option Addr} {doc pm : Value} {an : Option Addr} {cd ct : Value} {osl : Array (Option Value)} (a : PySem.W.nsIn K mainGlobals x = some (some (.ref f)))
    (l : K.lookup f = some ⟨oc, od, .func (PySem.W.fnOf x x (defArgs st) (defBody st) (defScope st) .none .none doc pm an cd ct), osl⟩) (c : PySem.W.codeIn K cd x = true) (k : PySem.W.keepIn K (.ref f) = true) : DefE K x st :=
  ⟨f, _, a, ⟨oc, od, doc, pm, an, cd, ct, osl, rfl, l, c⟩, k⟩
def FnE (P : Program) (w : World) (K : PySem.W.Frag) (mg : Str → Option Value) (base : Heap) (k : Nat) (e : FE) : Prop := ∃ f fd, mg e.name = some (.ref f) ∧ PySem.W.keepIn K (.ref f) = true ∧ FnG P w K mg base k f fd e.ps e.con ∧ ∀ q ∈ e.pats, BindsK fd e.ps q.1 q.2
section
variable {P : Program} {w : World} {K : PySem.W.Frag} {mg : Str → Option Value} {base h : Heap} {G : Gs} {j k n : Nat} {N ps : List Str} {x : Str} {st : Stmt} {f : Addr} {fd : FuncData} {u : WS} {c : Con}
theorem DefF.fnG (F : DefF K x st f fd) (S : FnScope N ps (defScope st)) (T : Tab P w K mg base G k) (tr : trSs G n N (defScope st) (defBody st) = some u) (im : Does c u N ps.length) : FnG P w K mg base (k + 1) f fd ps c := by
  obtain ⟨oc, od, doc, pm, an, cd, ct, osl, rfl, lk, hcd⟩ := F.ex
  exact fn_G lk hcd S T tr im
theorem DefF.binds {ks : List Str} (F : DefF K x st f fd) (h : ∀ (doc pm : Value) (an : Option Addr) (cd ct : Value), BindsK (PySem.W.fnOf x x (defArgs st) (defBody st) (defScope st) .none .none doc pm an cd ct) ps n ks) : BindsK fd ps n ks := by
  obtain ⟨oc, od, doc, pm, an, cd, ct, osl, rfl, lk, hcd⟩ := F.ex
  exact h doc pm an cd ct
theorem DefF.gl (F : DefF K x st f fd) (X : K.In h) (G : h.Ns mainGlobals mg) : mg x = some (.ref f) := PySem.W.mg_of X G F.a
theorem DefF.entry {pats : List (Nat × List Str)} (F : DefF K x st f fd) (X : K.In h) (Gl : h.Ns mainGlobals mg) (hk : j ≤ k) (FG : FnG P w K mg base j f fd ps c) (hp : ∀ q ∈ pats, BindsK fd ps q.1 q.2) : FnE P w K mg base k ⟨x, ps, c, pats⟩ :=
  ⟨f, fd, F.gl X Gl, F.kp, FG.mono hk, hp⟩
theorem tab (fns : ∀ e ∈ G.fns, FnE P w K mg base k e) (blt : ∀ x ∈ G.blt, mg x = none) (imp : ∀ q ∈ G.imp, mg q.1 = some (.builtin q.2)) (cst : ∀ q ∈ G.cst, ∃ v u, mg q.1 = some u ∧ RelV v u ∧ ∀ H, Rep K H v q.2)
    (exc : ∀ q ∈ G.exc, ∃ C fI, PX.ExTxt P K mg q.1 q.2 C fI ∧ PX.FldOk q.2) (cls : ∀ n ∈ G.cls, ∃ C, mg n = some (.ref C) ∧ ExcC K C ∧ PySem.W.typeIn K (.ref C) = some (.type "type"))
    (isa : ∀ n ∈ G.cls, ∀ m ∈ G.cls, ∀ C D, mg n = some (.ref C) → mg m = some (.ref D) → PySem.W.subIn K (.ref C) (.ref D) = some (G.sub n m) ∧ PySem.W.kitOne K (.ref C) (.ref D) = some (G.sub n m))
    (fld : ∀ f ∈ G.flds, ∀ n ∈ G.cls, ∀ C, mg n = some (.ref C) → PySem.W.findIn K (.ref C) f = some none) (obj : ∀ q ∈ G.obj, q.2.Nodup ∧ 2 ≤ k ∧ ObjE P w K mg base q) (eqs : ∀ q ∈ G.eqs, 1 ≤ k ∧ EqE P w K mg base q) : Tab P w K mg base G k := ⟨fns, blt, imp, cst, exc, cls, isa, fld, obj, eqs⟩
theorem isaF {n m : Str} {b : Bool} {C0 D0 : Addr} (hn : mg n = some (.ref C0)) (hm : mg m = some (.ref D0)) (s : PySem.W.subIn K (.ref C0) (.ref D0) = some b) (t : PySem.W.kitOne K (.ref C0) (.ref D0) = some b) :
    ∀ C D, mg n = some (.ref C) → mg m = some (.ref D) → PySem.W.subIn K (.ref C) (.ref D) = some b ∧ PySem.W.kitOne K (.ref C) (.ref D) = some b := fun C D h1 h2 => by
  rw [hn] at h1; rw [hm] at h2
  cases h1; cases h2
  exact ⟨s, t⟩
theorem fldF {n g : Str} {C0 : Addr} (hn : mg n = some (.ref C0)) (e : PySem.W.findIn K (.ref C0) g = some none) : ∀ C, mg n = some (.ref C) → PySem.W.findIn K (.ref C) g = some none := fun C h1 => by
  rw [hn] at h1
  cases h1
  exact e
end
theorem objE2 {P : Program} {w : World} {K : PySem.W.Frag} {mg : Str → Option Value} {base h : Heap} {cn x y qual : Str} {st : Stmt} {C f : Addr} {oc kV doc pm cdv ct : Value} {od an : Option Addr} {osl : Array (Option Value)} {p1 p2 p3 p4 q1 q2 q3 q4 : Pos}
    (h1 : PySem.W.nsIn K mainGlobals cn = some (some (.ref C))) (X : K.In h) (G : h.Ns mainGlobals mg) (c1 : PySem.W.plainGet K C Str.empty = true) (c2 : PySem.W.hasDictIn K C = true) (c3 : PySem.W.plainOver K C = true)
    (c4 : PySem.W.findIn K (.ref C) "__setattr__" = some (some (.builtin "object.__setattr__"))) (nx : PySem.W.findIn K (.ref C) x = some none) (ny : PySem.W.findIn K (.ref C) y = some none) (m1 : PySem.W.makesIn K C = true)
    (m2 : PySem.W.findIn K (.ref C) "__init__" = some (some (.ref f))) (m3 : PySem.W.isFn K (.ref f) = true) (m4 : PySem.W.keepIn K (.ref C) = true)
    (lk : K.lookup f = some ⟨oc, od, .func (PySem.W.fnOf "__init__" qual (defArgs st) (defBody st) (defScope st) .none kV doc pm an cdv ct), osl⟩) (cd : PySem.W.codeIn K cdv qual = true) (kf : PySem.W.keepIn K (.ref f) = true)
    (S : FnScope ["self", x, y] ["self", x, y] (defScope st)) (hb : defBody st = body2 x y p1 p2 p3 p4 q1 q2 q3 q4) (hxy : (y == x) = false) (dx : (x == ("__debug__" : Str)) = false) (dy : (y == ("__debug__" : Str)) = false) (cx : (x == ("__classdict__" : Str)) = false) (cy : (y == ("__classdict__" : Str)) = false)
    (hbind : ∀ (kV doc pm : Value) (an : Option Addr) (cd ct : Value) (a b c : Value), bindArgs (PySem.W.fnOf "__init__" qual (defArgs st) (defBody st) (defScope st) .none kV doc pm an cd ct) ⟨[a, b, c], []⟩ = pure [(("self" : Str), a), (x, b), (y, c)]) : ObjE P w K mg base (cn, [x, y]) := by
  have cl : Cls K C := ⟨c1, c2, c3, c4⟩
  refine ⟨C, f, _, h1, PySem.W.mg_of X G h1, cl, fun g hg => ?_, ⟨m1, m2, m3, m4⟩, init2 (L2.Fun.mk ⟨oc, od, kV, doc, pm, an, cdv, ct, osl, rfl, lk, cd⟩ kf) S cl nx ny hxy hb dx dy cx cy, Binds.all fun us hl => ?_⟩
  · rcases List.mem_cons.mp hg with rfl | hg
    · exact nx
    · rw [List.mem_singleton.mp hg]; exact ny
  · match us, hl with
    | [a, b, c], _ => exact hbind _ _ _ _ _ _ a b c
theorem eqE2 {P : Program} {w : World} {K : PySem.W.Frag} {mg : Str → Option Value} {base h : Heap} {cn x y qual : Str} {st : Stmt} {C f : Addr} {oc kV doc pm cdv ct : Value} {od an : Option Addr} {osl : Array (Option Value)} {a1 a2 a3 a4 b1 b2 b3 b4 b5 c1 c2 c3 c4 c5 e1 e2 : Pos}
    (h1 : PySem.W.nsIn K mainGlobals cn = some (some (.ref C))) (X : K.In h) (G : h.Ns mainGlobals mg) (k1 : PySem.W.plainGet K C Str.empty = true) (k2 : PySem.W.hasDictIn K C = true) (k3 : PySem.W.plainOver K C = true)
    (k4 : PySem.W.findIn K (.ref C) "__setattr__" = some (some (.builtin "object.__setattr__"))) (nx : PySem.W.findIn K (.ref C) x = some none) (ny : PySem.W.findIn K (.ref C) y = some none)
    (i1 : PySem.W.findIn K (.ref C) "__class__" = some (some (.builtin "object.__class__"))) (i2 : PySem.W.specialIn K (.builtin "object.__class__") "__get__" = some (some (.builtin "getset_descriptor.__get__"))) (i3 : PySem.W.takesIn K (.builtin "object.__class__") = some true)
    (i4 : PySem.W.mroIn K C (.type "object") = some true) (i5 : PySem.W.kitOne K (.ref C) (.ref C) = some true) (gi : PySem.W.nsIn K mainGlobals "isinstance" = some none)
    (m2 : PySem.W.findIn K (.ref C) "__eq__" = some (some (.ref f))) (m3 : PySem.W.isFn K (.ref f) = true)
    (lk : K.lookup f = some ⟨oc, od, .func (PySem.W.fnOf "__eq__" qual (defArgs st) (defBody st) (defScope st) .none kV doc pm an cdv ct), osl⟩) (cd : PySem.W.codeIn K cdv qual = true) (kf : PySem.W.keepIn K (.ref f) = true)
    (S : FnScope ["self", "other"] ["self", "other"] (defScope st)) (g1 : (defScope st).names.lookup ("isinstance" : Str) = some .globalImplicit) (g2 : (defScope st).names.lookup cn = some .globalImplicit)
    (hb : defBody st = bodyEq cn x y a1 a2 a3 a4 b1 b2 b3 b4 b5 c1 c2 c3 c4 c5 e1 e2) (hxy : (y == x) = false) (dc : (cn == ("__debug__" : Str)) = false)
    (hbind : ∀ (kV doc pm : Value) (an : Option Addr) (cd ct : Value) (a b : Value), bindArgs (PySem.W.fnOf "__eq__" qual (defArgs st) (defBody st) (defScope st) .none kV doc pm an cd ct) ⟨[a, b], []⟩ = pure [(("self" : Str), a), (("other" : Str), b)]) : EqE P w K mg base (cn, [x, y]) := by
  refine ⟨C, f, _, h1, eq2_ok (L2.Fun.mk ⟨oc, od, kV, doc, pm, an, cdv, ct, osl, rfl, lk, cd⟩ kf) S ⟨⟨k1, k2, k3, k4⟩, i1, i2, i3, i4, i5⟩ nx ny hxy (PySem.W.mg_of X G h1) (PySem.W.mg_none_of X G gi) g1 g2 dc hb, m2, m3, Binds.all fun us hl => ?_⟩
  match us, hl with
  | [a, b], _ => exact hbind _ _ _ _ _ _ a b
/-! constants of the module: pairs of ints, ints, texts -/
def CstP (K : PySem.W.Frag) (x : Str) (d : D) : Prop := ∃ (a : Addr) (o : Obj) (its : Array Value) (n : Nat) (xs : List V) (ds : List D), PySem.W.nsIn K mainGlobals x = some (some (.ref a)) ∧ K.lookup a = some o ∧ o.cls = .type "tuple" ∧ o.data = .seq its n ∧ its.size ≤ sizeLine ∧ Vals xs its.toList ∧ d = .tup ds ∧ ∀ H, RepL K H xs ds
def CstT (K : PySem.W.Frag) (x : Str) (d : D) : Prop := CstP K x d ∨ (∃ i t, PySem.W.nsIn K mainGlobals x = some (some (.int i t)) ∧ d = .int i) ∨ (∃ z t, PySem.W.nsIn K mainGlobals x = some (some (.str z t)) ∧ d = .str z)
theorem CstT.get {K : PySem.W.Frag} {mg : Str → Option Value} {h : Heap} {x : Str} {d : D} (c : CstT K x d) (X : K.In h) (G : h.Ns mainGlobals mg) : ∃ v u, mg x = some u ∧ RelV v u ∧ ∀ H, Rep K H v d := by
  rcases c with ⟨a, o, its, n, xs, ds, e1, e2, e3, e4, e5, e6, rfl, r⟩ | ⟨i, t, e, rfl⟩ | ⟨z, t, e, rfl⟩
  · exact ⟨.ref a, .ref a, PySem.W.mg_of X G e1, rfl, fun H => .tup (.inr ⟨o, its, n, e2, e3, e4, e5, e6⟩) (r H)⟩
  · exact ⟨.int i, .int i t, PySem.W.mg_of X G e, ⟨t, rfl⟩, fun H => .int i⟩
  · exact ⟨.str z, .str z t, PySem.W.mg_of X G e, ⟨t, rfl⟩, fun H => .str z⟩
theorem cst_ii {K : PySem.W.Frag} {x : Str} {a : Addr} {i j : Int} {t u : Tok} {n : Nat} {dd : Option Addr} {sl : Array (Option Value)} (h1 : PySem.W.nsIn K mainGlobals x = some (some (.ref a))) (h2 : K.lookup a = some ⟨.type "tuple", dd, .seq #[.int i t, .int j u] n, sl⟩) : CstT K x (.tup [.int i, .int j]) :=
  .inl ⟨a, _, _, n, [.int i, .int j], [.int i, .int j], h1, h2, rfl, rfl, (show 2 ≤ sizeLine by rw [sizeLine_eq]; decide), .cons ⟨_, rfl⟩ (.cons ⟨_, rfl⟩ .nil), rfl, fun H => .cons (.int _) (.cons (.int _) .nil)⟩
theorem cst_i {K : PySem.W.Frag} {x : Str} {i : Int} {t : Tok} (h : PySem.W.nsIn K mainGlobals x = some (some (.int i t))) : CstT K x (.int i) := .inr (.inl ⟨i, t, h, rfl⟩)
theorem cst_s {K : PySem.W.Frag} {x z : Str} {t : Tok} (h : PySem.W.nsIn K mainGlobals x = some (some (.str z t))) : CstT K x (.str z) := .inr (.inr ⟨z, t, h, rfl⟩)
end PL
namespace PL
open PySem PySem.Spec L2
/-! ### sizes -/
/-- less than n bits -/
def Bd (n : Nat) (i : Int) : Prop := i.natAbs < 2 ^ n
theorem Bd.mono {m n : Nat} {i : Int} (h : Bd m i) (l : m ≤ n) : Bd n i := Nat.lt_of_lt_of_le h (Nat.pow_le_pow_right (by decide) l)
theorem Bd.mul {m n : Nat} {i j : Int} (h : Bd m i) (g : Bd n j) : Bd (m + n) (i * j) := by
  unfold Bd at *
  rw [Int.natAbs_mul, Nat.pow_add]
  exact Nat.mul_lt_mul'' h g
theorem pow_dbl (n : Nat) : (2 : Nat) ^ (n + 1) = 2 ^ n + 2 ^ n := by rw [Nat.pow_succ]; omega
theorem Bd.add {n : Nat} {i j : Int} (h : Bd n i) (g : Bd n j) : Bd (n + 1) (i + j) := by
  unfold Bd at *
  rw [pow_dbl]
  have := Int.natAbs_add_le i j
  omega
theorem Bd.sub {n : Nat} {i j : Int} (h : Bd n i) (g : Bd n j) : Bd (n + 1) (i - j) := by
  unfold Bd at *
  rw [pow_dbl]
  have := Int.natAbs_sub_le i j
  omega
theorem Bd.neg {n : Nat} {i : Int} (h : Bd n i) : Bd n (-i) := by unfold Bd at *; rw [Int.natAbs_neg]; exact h
theorem Bd.le {n : Nat} {i j : Int} (h : Bd n i) (g : j.natAbs ≤ i.natAbs) : Bd n j := Nat.lt_of_le_of_lt g h
theorem Bd.log {n : Nat} {i : Int} (h : Bd n i) : i.natAbs.log2 ≤ n := by
  by_cases z : i.natAbs = 0
  · rw [z]; simp
  · exact Nat.le_of_lt ((Nat.log2_lt z).mpr h)
theorem Bd.cmul {m n : Nat} {i j : Int} (h : Bd m i) (g : Bd n j) (l : m + n < 1000000) : CMulW i j := by
  unfold CMulW
  have := h.log
  have := g.log
  omega
theorem Bd.cdiv {n : Nat} {i j : Int} (h : Bd n j) (p : 0 < j) (l : n < 9000) : CDivW i j := ⟨p, by have := h.log; omega⟩
/-! ### fractions -/
def DQ (q : Rat) : D := .tup [.int q.num, .int (q.den : Int)]
/-- less than n bits, above and below -/
def Sz (n : Nat) (q : Rat) : Prop := Bd n q.num ∧ Bd n (q.den : Int)
theorem Sz.mono {m n : Nat} {q : Rat} (h : Sz m q) (l : m ≤ n) : Sz n q := ⟨h.1.mono l, h.2.mono l⟩
theorem natAbs_ediv_le' (a : Int) (b : Nat) : (a / (b : Int)).natAbs ≤ a.natAbs := Int.natAbs_ediv_le_natAbs a b
theorem Sz.divInt {n : Nat} {t b : Int} (h : Bd n t) (g : Bd n b) (nz : b ≠ 0) : Sz n (Rat.divInt t b) := by
  refine ⟨?_, ?_⟩
  · rw [Rat.num_divInt]
    refine h.le (Nat.le_trans (natAbs_ediv_le' _ _) ?_)
    rw [Int.natAbs_mul]
    have : b.sign.natAbs ≤ 1 := by rw [Int.natAbs_sign]; split <;> decide
    have := Nat.mul_le_mul_right t.natAbs this
    omega
  · rw [Rat.den_divInt, if_neg nz]
    refine g.le ?_
    exact Nat.div_le_self _ _
theorem den_ne (q : Rat) : (q.den : Int) ≠ 0 := Int.ofNat_ne_zero.mpr q.den_nz
theorem den_pos (q : Rat) : (0 : Int) < q.den := Int.ofNat_lt.mpr (Nat.pos_of_ne_zero q.den_nz)
theorem self_div (q : Rat) : Rat.divInt q.num q.den = q := Rat.num_divInt_den q
theorem q_add (p q : Rat) : p + q = Rat.divInt (p.num * q.den + q.num * p.den) (p.den * q.den) := by
  conv => lhs; rw [← self_div p, ← self_div q]
  exact Rat.divInt_add_divInt _ _ (den_ne p) (den_ne q)
theorem q_neg (p : Rat) : -p = Rat.divInt (-p.num) p.den := by
  conv => lhs; rw [← self_div p]
  exact Rat.neg_divInt _ _
theorem q_sub (p q : Rat) : p - q = Rat.divInt (p.num * q.den - q.num * p.den) (p.den * q.den) := by
  rw [Rat.sub_eq_add_neg, q_neg]
  conv => lhs; rw [← self_div p]
  rw [Rat.divInt_add_divInt _ _ (den_ne p) (den_ne q), Int.neg_mul, ← Int.sub_eq_add_neg]
theorem q_mul (p q : Rat) : p * q = Rat.divInt (p.num * q.num) (p.den * q.den) := by
  conv => lhs; rw [← self_div p, ← self_div q]
  exact Rat.divInt_mul_divInt _ _
theorem q_div (p q : Rat) : p / q = Rat.divInt (p.num * q.den) (p.den * q.num) := by
  rw [Rat.div_def]
  conv => lhs; rw [← self_div p, ← self_div q]
  rw [Rat.inv_divInt]
  exact Rat.divInt_mul_divInt _ _
theorem Sz.add {m n : Nat} {p q : Rat} (h : Sz m p) (g : Sz n q) : Sz (m + n + 1) (p + q) := by
  rw [q_add]
  exact Sz.divInt ((h.1.mul g.2).add ((g.1.mul h.2).mono (by omega))) ((h.2.mul g.2).mono (by omega)) (Int.mul_ne_zero (den_ne p) (den_ne q))
theorem Sz.sub {m n : Nat} {p q : Rat} (h : Sz m p) (g : Sz n q) : Sz (m + n + 1) (p - q) := by
  rw [q_sub]
  exact Sz.divInt ((h.1.mul g.2).sub ((g.1.mul h.2).mono (by omega))) ((h.2.mul g.2).mono (by omega)) (Int.mul_ne_zero (den_ne p) (den_ne q))
theorem Sz.mul {m n : Nat} {p q : Rat} (h : Sz m p) (g : Sz n q) : Sz (m + n) (p * q) := by
  rw [q_mul]
  exact Sz.divInt (h.1.mul g.1) (h.2.mul g.2) (Int.mul_ne_zero (den_ne p) (den_ne q))
theorem num_ne {q : Rat} (h : q ≠ 0) : q.num ≠ 0 := fun z => h (Rat.num_eq_zero.mp z)
theorem Sz.div {m n : Nat} {p q : Rat} (h : Sz m p) (g : Sz n q) (z : q ≠ 0) : Sz (m + n) (p / q) := by
  rw [q_div]
  exact Sz.divInt (h.1.mul g.2) (h.2.mul g.1) (Int.mul_ne_zero (den_ne p) (num_ne z))
theorem Sz.neg {m : Nat} {p : Rat} (h : Sz m p) : Sz m (-p) := ⟨by rw [Rat.neg_num]; exact h.1.neg, by rw [Rat.neg_den]; exact h.2⟩
/-! levels: each sum trebles -/
def Lv (k : Nat) (q : Rat) : Prop := Sz (75 * 3 ^ k) q
theorem lv_up (k : Nat) : 75 * 3 ^ k + 75 * 3 ^ k + 1 ≤ 75 * 3 ^ (k + 1) := by
  rw [Nat.pow_succ]
  have : 0 < 3 ^ k := Nat.pow_pos (by decide)
  omega
theorem Lv.up {k : Nat} {q : Rat} (h : Lv k q) : Lv (k + 1) q := h.mono (Nat.le_trans (by omega) (lv_up k))
theorem Lv.add {k : Nat} {p q : Rat} (h : Lv k p) (g : Lv k q) : Lv (k + 1) (p + q) := (Sz.add h g).mono (lv_up k)
theorem Lv.sub {k : Nat} {p q : Rat} (h : Lv k p) (g : Lv k q) : Lv (k + 1) (p - q) := (Sz.sub h g).mono (lv_up k)
theorem Lv.mul {k : Nat} {p q : Rat} (h : Lv k p) (g : Lv k q) : Lv (k + 1) (p * q) := (Sz.mul h g).mono (Nat.le_trans (by omega) (lv_up k))
theorem Lv.div {k : Nat} {p q : Rat} (h : Lv k p) (g : Lv k q) (z : q ≠ 0) : Lv (k + 1) (p / q) := (Sz.div h g z).mono (Nat.le_trans (by omega) (lv_up k))
theorem Lv.neg {k : Nat} {q : Rat} (h : Lv k q) : Lv k (-q) := Sz.neg h
theorem Lv.mono {k j : Nat} {q : Rat} (h : Lv k q) (l : k ≤ j) : Lv j q := Sz.mono h (Nat.mul_le_mul_left 75 (Nat.pow_le_pow_right (by decide) l))
/-! ### equal and the same text -/
theorem okD_DQ (q : Rat) : okD (DQ q) = true := by
  simp [okD, DQ, noref, norefL, SeqAt.shaped, toP, toPL, PyData.canLay0, PyData.canLayAll0, PyData.depth, PyData.depthAll]
theorem eqD_DQ (p q : Rat) : eqD (DQ p) (DQ q) = decide (p = q) := by
  have e : (p = q) ↔ (p.num = q.num ∧ p.den = q.den) := ⟨fun h => by rw [h]; exact ⟨rfl, rfl⟩, fun h => Rat.ext h.1 h.2⟩
  simp only [eqD, DQ, toP, toPL, PyData.eqv, PyData.eqvAll, Bool.and_true]
  rw [Bool.eq_iff_iff, Bool.and_eq_true, beq_iff_eq, beq_iff_eq, decide_eq_true_eq, e, Int.ofNat_inj]
theorem res_DQ (S : Sto) (q : Rat) : res S (DQ q) = DQ q := rfl
theorem res_tup (S : Sto) (ds : List D) : res S (.tup ds) = .tup ds := rfl
theorem res_lst (S : Sto) (ds : List D) : res S (.lst ds) = .lst ds := rfl
theorem res_int (S : Sto) (i : Int) : res S (.int i) = .int i := rfl
theorem res_str (S : Sto) (x : Str) : res S (.str x) = .str x := rfl
theorem res_bl (S : Sto) (x : Bool) : res S (.bl x) = .bl x := rfl
theorem res_non (S : Sto) : res S .non = .non := rfl
theorem okD_int (i : Int) : okD (.int i) = true := rfl
theorem okD_bl (i : Bool) : okD (.bl i) = true := rfl
theorem okD_non : okD .non = true := rfl
theorem eqD_int (i j : Int) : eqD (.int i) (.int j) = decide (i = j) := by
  simp only [eqD, toP, PyData.eqv]
  rw [Bool.eq_iff_iff, beq_iff_eq, decide_eq_true_eq]
theorem eqD_refl_DQ (p : Rat) : eqD (DQ p) (DQ p) = true := by rw [eqD_DQ]; exact decide_eq_true rfl
end PL
namespace PL
open PySem PySem.Spec L2
/-! ### readings, step by step -/
section
variable {a b c d e f g h i j : Option D} {r : List (Option D)} {x y z : D} {S : Sto} {P : PD} {X : PX} {R : Env → Sto → Prop}
theorem v0 : wVar 0 (some x :: r) S P X = P x S := id rfl
theorem v1 : wVar 1 (a :: some x :: r) S P X = P x S := id rfl
theorem v2 : wVar 2 (a :: b :: some x :: r) S P X = P x S := id rfl
theorem v3 : wVar 3 (a :: b :: c :: some x :: r) S P X = P x S := id rfl
theorem v4 : wVar 4 (a :: b :: c :: d :: some x :: r) S P X = P x S := id rfl
theorem v5 : wVar 5 (a :: b :: c :: d :: e :: some x :: r) S P X = P x S := id rfl
theorem v6 : wVar 6 (a :: b :: c :: d :: e :: f :: some x :: r) S P X = P x S := id rfl
theorem v7 : wVar 7 (a :: b :: c :: d :: e :: f :: g :: some x :: r) S P X = P x S := id rfl
theorem v8 : wVar 8 (a :: b :: c :: d :: e :: f :: g :: h :: some x :: r) S P X = P x S := id rfl
theorem v9 : wVar 9 (a :: b :: c :: d :: e :: f :: g :: h :: i :: some x :: r) S P X = P x S := id rfl
theorem g0 : gVar 0 x (a :: r) S R X = R (some x :: r) S := id rfl
theorem g1 : gVar 1 x (a :: b :: r) S R X = R (a :: some x :: r) S := id rfl
theorem g2 : gVar 2 x (a :: b :: c :: r) S R X = R (a :: b :: some x :: r) S := id rfl
theorem g3 : gVar 3 x (a :: b :: c :: d :: r) S R X = R (a :: b :: c :: some x :: r) S := id rfl
theorem g4 : gVar 4 x (a :: b :: c :: d :: e :: r) S R X = R (a :: b :: c :: d :: some x :: r) S := id rfl
theorem g5 : gVar 5 x (a :: b :: c :: d :: e :: f :: r) S R X = R (a :: b :: c :: d :: e :: some x :: r) S := id rfl
theorem g6 : gVar 6 x (a :: b :: c :: d :: e :: f :: g :: r) S R X = R (a :: b :: c :: d :: e :: f :: some x :: r) S := id rfl
theorem g7 : gVar 7 x (a :: b :: c :: d :: e :: f :: g :: h :: r) S R X = R (a :: b :: c :: d :: e :: f :: g :: some x :: r) S := id rfl
theorem g8 : gVar 8 x (a :: b :: c :: d :: e :: f :: g :: h :: i :: r) S R X = R (a :: b :: c :: d :: e :: f :: g :: h :: some x :: r) S := id rfl
theorem xc : wC x r S P X = P x S := id rfl
theorem x2 {o : O2} {u v : WE} : w2 o u v r S P X = u r S (fun x S1 => v r S1 (fun y S2 => o x y S2 P) X) X := id rfl
theorem x1 {o : O1} {u : WE} : w1 o u r S P X = u r S (fun x S1 => o x S1 P) X := id rfl
theorem xn {o : ON} {u : WA} : wN o u r S P X = u r S (fun ds S1 => o ds S1 P) X := id rfl
theorem xnil {Q : List D → Sto → Prop} : wNil r S Q X = Q [] S := id rfl
theorem xcons {u : WE} {v : WA} {Q : List D → Sto → Prop} : wCons u v r S Q X = u r S (fun d S1 => v r S1 (fun ds S2 => Q (d :: ds) S2) X) X := id rfl
theorem xtup {u : WA} : wTup u r S P X = u r S (fun ds S1 => ds.length ≤ sizeLine ∧ P (.tup ds) S1) X := id rfl
theorem xlst {u : WA} : wLst u r S P X = u r S (fun ds S1 => ds.length ≤ sizeLine ∧ P (.lst ds) S1) X := id rfl
theorem xcall {c : Con} {ix : List Nat} {u v : WA} : wCall c ix u v r S P X = u r S (fun ds S1 => v r S1 (fun es S2 => c (ds ++ pick ix es) S2 P X) X) X := id rfl
theorem xif {t : WB} {u v : WE} : wIf t u v r S P X = t r S (fun k S1 => if k = true then u r S1 P X else v r S1 P X) X := id rfl
theorem xbl {u : WE} {Q : Bool → Sto → Prop} : wBl u r S Q X = u r S (fun d S' => match d with
  | .bl k => Q k S'
  | _ => False) X := id rfl
theorem xnotB {u : WB} {Q : Bool → Sto → Prop} : wNotB u r S Q X = u r S (fun k S1 => Q (!k) S1) X := id rfl
theorem xandB {u v : WB} {Q : Bool → Sto → Prop} : wAndB u v r S Q X = u r S (fun k S1 => if k = true then v r S1 Q X else Q false S1) X := id rfl
theorem xorB {u v : WB} {Q : Bool → Sto → Prop} : wOrB u v r S Q X = u r S (fun k S1 => if k = true then Q true S1 else v r S1 Q X) X := id rfl
theorem xseq {u v : WS} {E : EndD} {Y : XS} : sSeq u v E Y r S = u { E with nx := fun e s => v E Y e s } Y r S := id rfl
theorem xret {u : WE} {E : EndD} {Y : XS} : sRet u E Y r S = u r S E.rt (fun x S' => Y x r S') := id rfl
theorem xskip {E : EndD} {Y : XS} : sSkip E Y r S = E.nx r S := id rfl
theorem xbreak {E : EndD} {Y : XS} : sBreak E Y r S = E.bk r S := id rfl
theorem xcont {E : EndD} {Y : XS} : sCont E Y r S = E.ct r S := id rfl
theorem xsif {t : WB} {u v : WS} {E : EndD} {Y : XS} : sIf t u v E Y r S = t r S (fun k S' => if k = true then u E Y r S' else v E Y r S') (fun x S' => Y x r S') := id rfl
theorem xset {u : WE} {G : WG} {E : EndD} {Y : XS} : sSet u G E Y r S = u r S (fun d S' => G d r S' E.nx (fun _ _ => False)) (fun x S' => Y x r S') := id rfl
theorem xexpr {u : WE} {E : EndD} {Y : XS} : sExpr u E Y r S = u r S (fun _ S' => E.nx r S') (fun x S' => Y x r S') := id rfl
theorem xraise {cn fl : Str} {u : WA} {E : EndD} {Y : XS} : sRaise cn fl u E Y r S = u r S (fun ds S' => match ds with
  | [d] => Y ⟨cn, [(fl, d)]⟩ r S'
  | _ => False) (fun x S' => Y x r S') := id rfl
theorem xpar2 {k l : Nat} {u : WA} {E : EndD} {Y : XS} : sPar2 k l u E Y r S = u r S (fun ds S' => match ds with
  | [d, e] => E.nx ((r.set k (some d)).set l (some e)) S'
  | _ => False) (fun x S' => Y x r S') := id rfl
theorem xpar3 {k l m : Nat} {u : WA} {E : EndD} {Y : XS} : sPar3 k l m u E Y r S = u r S (fun ds S' => match ds with
  | [d, e, f] => E.nx (((r.set k (some d)).set l (some e)).set m (some f)) S'
  | _ => False) (fun x S' => Y x r S') := id rfl
theorem xfor {wi : WI} {G : WG} {u : WS} {E : EndD} {Y : XS} : sFor wi G u E Y r S = wi r S (fun ds S' => loopD G u E Y ds r S') (fun x S' => Y x r S') := id rfl
theorem xrange {k : Int} {Q : List D → Sto → Prop} : wRange1 (wCons (wC (.int k)) wNil) r S Q X = ((-(2 ^ 62) ≤ k ∧ k < 2 ^ 62) ∧ Q (intsD 0 k.toNat) S) := id rfl
theorem xloop {G : WG} {u : WS} {E : EndD} {Y : XS} {ds : List D} : loopD G u E Y (x :: ds) r S = G x r S (fun e s => u { nx := loopD G u E Y ds, ct := loopD G u E Y ds, bk := E.nx, rt := E.rt } Y e s) (fun _ _ => False) := id rfl
theorem xloopN {G : WG} {u : WS} {E : EndD} {Y : XS} : loopD G u E Y [] r S = E.nx r S := id rfl
theorem ints_len {lo : Int} {n : Nat} : (intsD lo n).length = n := by unfold intsD; rw [List.length_map, List.length_range]
theorem abs_nat (i : Int) : (if i < 0 then -i else i) = (i.natAbs : Int) := by split <;> omega
/-! operators on ints -/
variable {m n : Int}
theorem oaddI : oAdd (.int m) (.int n) S P = P (.int (m + n)) S := id rfl
theorem osubI : oSub (.int m) (.int n) S P = P (.int (m - n)) S := id rfl
theorem omulI : oMul (.int m) (.int n) S P = (CMulW m n ∧ P (.int (m * n)) S) := id rfl
theorem odivI : oDiv (.int m) (.int n) S P = (CDivW m n ∧ P (.int (m / n)) S) := id rfl
theorem omodI : oMod (.int m) (.int n) S P = (0 < n ∧ P (.int (m % n)) S) := id rfl
theorem opowI : oPow (.int m) (.int n) S P = (CPow m n ∧ P (.int (m ^ n.toNat)) S) := id rfl
theorem onegI : oNeg (.int m) S P = P (.int (-m)) S := id rfl
theorem ocmpI {k : Int → Int → Bool} : oCmpI k (.int m) (.int n) S P = P (.bl (k m n)) S := id rfl
theorem ogcdI : oGcd [.int m, .int n] S P = P (.int ((Nat.gcd m.natAbs n.natAbs : Nat) : Int)) S := id rfl
theorem oabsI : oAbs [.int m] S P = P (.int (if m < 0 then -m else m)) S := id rfl
theorem ointI : oInt [.int m] S P = P (.int m) S := id rfl
theorem oeqI : oEq (.int m) (.int n) S P = P (.bl (decide (m = n))) S := by
  show (okD (res S (.int m)) = true ∧ okD (res S (.int n)) = true ∧ P (.bl (eqD (res S (.int m)) (res S (.int n)))) S) = _
  rw [res_int, res_int, okD_int, okD_int, eqD_int]
  simp
theorem oneI : oNe (.int m) (.int n) S P = P (.bl (!decide (m = n))) S := by
  show (okD (res S (.int m)) = true ∧ okD (res S (.int n)) = true ∧ P (.bl (!eqD (res S (.int m)) (res S (.int n)))) S) = _
  rw [res_int, res_int, okD_int, okD_int, eqD_int]
  simp
theorem oeqQ {p q : Rat} : oEq (DQ p) (DQ q) S P = P (.bl (decide (p = q))) S := by
  show (okD (res S (DQ p)) = true ∧ okD (res S (DQ q)) = true ∧ _) = _
  rw [res_DQ, res_DQ, okD_DQ, okD_DQ, eqD_DQ]
  simp
theorem oneQ {p q : Rat} : oNe (DQ p) (DQ q) S P = P (.bl (!decide (p = q))) S := by
  show (okD (res S (DQ p)) = true ∧ okD (res S (DQ q)) = true ∧ _) = _
  rw [res_DQ, res_DQ, okD_DQ, okD_DQ, eqD_DQ]
  simp
theorem oeqS {a b : Str} : oEq (.str a) (.str b) S P = P (.bl (decide (a = b))) S := id rfl
theorem oneS {a b : Str} : oNe (.str a) (.str b) S P = P (.bl (!decide (a = b))) S := id rfl
theorem at_nat {α : Type} (xs : List α) (k : Nat) : atI xs (k : Int) = xs[k]? := by
  unfold atI ixN
  rw [if_pos (by omega)]
  by_cases h : k < xs.length
  · rw [if_pos (by omega)]; rfl
  · rw [if_neg (by omega), List.getElem?_eq_none (by omega)]; rfl
theorem oidx0 {ds : List D} : oIdx (.tup (x :: ds)) (.int 0) S P = P x S := by
  show (match atI (x :: ds) ((0 : Nat) : Int) with
    | some d => P d S
    | none => False) = _
  rw [at_nat]; rfl
theorem oidx1 {ds : List D} : oIdx (.tup (x :: y :: ds)) (.int 1) S P = P y S := by
  show (match atI (x :: y :: ds) ((1 : Nat) : Int) with
    | some d => P d S
    | none => False) = _
  rw [at_nat]; rfl
theorem oidxQ0 {q : Rat} : oIdx (DQ q) (.int 0) S P = P (.int q.num) S := oidx0
theorem oidxQ1 {q : Rat} : oIdx (DQ q) (.int 1) S P = P (.int q.den) S := oidx1
end
end PL
namespace PL
open PySem PySem.Spec L2
/-! ### lists -/
theorem le_line {n : Nat} (h : n ≤ 1000) : n ≤ sizeLine := by rw [sizeLine_eq]; omega
theorem sput_at {S : Sto} {a : Addr} {o : DO} : sput S a o a = some o := by unfold sput; rw [if_pos rfl]
theorem sput_off {S : Sto} {a b : Addr} {o : DO} (h : b ≠ a) : sput S a o b = S b := by unfold sput; rw [if_neg h]
theorem lc_run {G : WG} {t : WB} {w : WE} {vs : List Nat} {env : Env} {p : Addr} {P : PD} {S : Sto} (f : D → Option D) (hp : S p = none) : ∀ (ds acc : List D), acc.length + ds.length ≤ sizeLine →
    (∀ d ∈ ds, ∀ (acc : List D) (R : Sto → Prop), (match f d with
      | some y => lcPut p y R (sput S p (.lst acc))
      | none => R (sput S p (.lst acc))) → G d (wipeD env vs) (sput S p (.lst acc)) (fun e1 S1 => t e1 S1 (fun b S2 => if b = true then w e1 S2 (fun y S3 => lcPut p y R S3) (fun _ _ => False) else R S2) (fun _ _ => False)) (fun _ _ => False)) →
    P (.lst (acc ++ ds.filterMap f)) S → lcD G t w vs env p (lcEnd P p) ds (sput S p (.lst acc))
  | [], acc, _, _, h => by
    rw [List.filterMap_nil, List.append_nil] at h
    show lcEnd P p _
    unfold lcEnd
    rw [sput_at]
    show P (.lst acc) (sdel (sput S p (.lst acc)) p)
    rw [sdel_put hp]
    exact h
  | d :: ds, acc, hl, hs, h => by
    rw [List.length_cons] at hl
    refine hs d List.mem_cons_self acc _ ?_
    cases e : f d with
    | none =>
      rw [List.filterMap_cons, e] at h
      exact lc_run f hp ds acc (by omega) (fun d' hd => hs d' (List.mem_cons_of_mem _ hd)) h
    | some y =>
      rw [List.filterMap_cons, e] at h
      show lcPut p y _ _
      unfold lcPut
      rw [sput_at]
      refine ⟨by omega, ?_⟩
      rw [sput_sput]
      exact lc_run f hp ds (acc ++ [y]) (by rw [List.length_append, List.length_singleton]; omega) (fun d' hd => hs d' (List.mem_cons_of_mem _ hd)) (by rw [List.append_assoc]; exact h)
theorem lc_go {wi : WI} {G : WG} {t : WB} {w : WE} {vs : List Nat} {env : Env} {S S1 : Sto} {P : PD} {X : PX} {ds : List D} (f : D → Option D) (hi : ∀ Q : List D → Sto → Prop, Q ds S → wi env S Q X) (hl : ds.length ≤ sizeLine)
    (hs : ∀ p, S p = none → ∀ d ∈ ds, ∀ (acc : List D) (R : Sto → Prop), (match f d with
      | some y => lcPut p y R (sput S p (.lst acc))
      | none => R (sput S p (.lst acc))) → G d (wipeD env vs) (sput S p (.lst acc)) (fun e1 S1 => t e1 S1 (fun b S2 => if b = true then w e1 S2 (fun y S3 => lcPut p y R S3) (fun _ _ => False) else R S2) (fun _ _ => False)) (fun _ _ => False))
    (h : P (.lst (ds.filterMap f)) S) : wLc wi G t w vs env S P X :=
  hi _ fun p hp => lc_run f hp ds [] (by simpa using hl) (hs p hp) h
/-! ### texts -/
mutual
def wD : PyData → Nat
  | .none => 4
  | .bool _ => 5
  | .int i => i.natAbs.log2 + 3
  | .str x => (reprText x).length
  | .list xs => wDL xs + 2
  | .tuple xs => wDL xs + 4
  | .dict kvs => (PyData.shown (.dict kvs)).length
def wDL : List PyData → Nat
  | [] => 0
  | x :: xs => wD x + 2 + wDL xs
end
theorem lt_ten (n : Nat) : n < 10 ^ (n.log2 + 1) := by
  have h : n < 2 ^ (n.log2 + 1) := Nat.lt_log2_self
  exact Nat.lt_of_lt_of_le h (Nat.pow_le_pow_left (by decide) _)
theorem nat_len (n : Nat) : (Str.ofString (toString ((n : Nat) : Int))).length ≤ n.log2 + 1 := by
  refine PyProof.Rows.toString_length_le (by omega) (by omega) ?_
  have := lt_ten n
  have e : ((10 : Int) ^ (n.log2 + 1)) = ((10 ^ (n.log2 + 1) : Nat) : Int) := (Int.natCast_pow 10 _).symm
  rw [e]
  exact Int.ofNat_lt.mpr this
theorem int_len (i : Int) : (Str.ofString (toString i)).length ≤ i.natAbs.log2 + 2 := by
  cases i with
  | ofNat n => exact Nat.le_trans (nat_len n) (by simp)
  | negSucc n =>
    have e : toString (Int.negSucc n) = "-" ++ toString (((n + 1 : Nat)) : Int) := rfl
    have h := nat_len (n + 1)
    rw [ofString_length] at h ⊢
    rw [e]
    have : (("-" : String) ++ toString (((n + 1 : Nat)) : Int)).length = 1 + (toString (((n + 1 : Nat)) : Int)).length := by rw [String.length_append]; rfl
    rw [this]
    show _ ≤ (n + 1).log2 + 2
    omega
theorem piled_text : ∀ (ts : List Str) (k : Nat) (acc : Str), (textFrom k acc ts).length ≤ acc.length + piled ts
  | [], _, acc => by show acc.length ≤ _; omega
  | t :: ts, k, acc => by
    have ih := piled_text ts (k + 1) (acc ++ (if k > 0 then ", " else "" : String) ++ t)
    rw [piled_cons]
    show (textFrom (k + 1) (acc ++ (if k > 0 then ", " else "" : String) ++ t) ts).length ≤ _
    have e : (acc ++ (if k > 0 then ", " else "" : String) ++ t).length ≤ acc.length + 2 + t.length := by
      rw [strLen_append, strLen_append]
      split
      · have : (((", " : String) : Str)).length = 2 := rfl
        omega
      · have : ((("" : String) : Str)).length = 0 := rfl
        omega
    omega
mutual
theorem shown_len : ∀ d : PyData, d.shown.length ≤ wD d
  | .none => by simp only [PyData.shown, wD]; exact (by decide : ("None" : Str).length ≤ 4)
  | .bool b => by
    simp only [PyData.shown, wD]
    cases b <;> decide
  | .int i => by
    simp only [PyData.shown, wD]
    have := int_len i
    exact Nat.le_trans this (by omega)
  | .str x => by simp only [PyData.shown, wD]; omega
  | .list xs => by
    simp only [PyData.shown, wD]
    have h := shown_lenL xs
    have h2 := piled_text (PyData.shownAll xs) 0 "["
    unfold listText
    rw [strLen_append]
    have e1 : (("[" : String) : Str).length = 1 := rfl
    have e2 : (("]" : String) : Str).length = 1 := rfl
    omega
  | .tuple xs => by
    simp only [PyData.shown, wD]
    have h := shown_lenL xs
    unfold tupleText
    rw [strLen_append, strLen_append]
    have e1 : (("(" : String) : Str).length = 1 := rfl
    have e2 : (((if (PyData.shownAll xs).length == 1 then ",)" else ")" : String) : Str)).length ≤ 2 := by split <;> decide
    have e3 : (Str.join ", " (PyData.shownAll xs)).length ≤ piled (PyData.shownAll xs) := by
      cases h : PyData.shownAll xs with
      | nil => exact (by decide : (Str.join ", " []).length ≤ piled [])
      | cons a l =>
        have := join_length_add (a :: l) (by simp)
        omega
    omega
  | .dict kvs => by simp only [wD]; omega
theorem shown_lenL : ∀ xs : List PyData, piled (PyData.shownAll xs) ≤ wDL xs
  | [] => by simp only [PyData.shownAll, wDL]; exact (by decide : piled [] ≤ 0)
  | x :: xs => by
    simp only [PyData.shownAll, wDL]
    rw [piled_cons]
    have := shown_len x
    have := shown_lenL xs
    omega
end
/-- a value whose text is told -/
structure Shw (d : D) : Prop where
  res : ∀ S, res S d = d
  ok : okD d = true
  sh : (toP d).showable = true
  sz : (shownD d).length ≤ sizeLine
theorem orepr {d : D} {S : Sto} {P : PD} (h : Shw d) : oRepr [d] S P = P (.str (shownD d)) S := by
  show (okD (res S d) = true ∧ (toP (res S d)).showable = true ∧ (shownD (res S d)).length ≤ sizeLine ∧ P (.str (shownD (res S d))) S) = _
  rw [h.res S]
  exact propext ⟨fun z => z.2.2.2, fun z => ⟨h.ok, h.sh, h.sz, z⟩⟩
theorem shw_DQ {q : Rat} (h : Sz 1900 q) : Shw (DQ q) where
  res := fun _ => rfl
  ok := okD_DQ q
  sh := by
    have a := h.1.log
    have b := h.2.log
    simp only [DQ, toP, toPL, PyData.showable, PyData.showableAll, Bool.and_true, Bool.and_eq_true, decide_eq_true_eq]
    omega
  sz := by
    refine Nat.le_trans (shown_len _) ?_
    have a := h.1.log
    have b := h.2.log
    rw [sizeLine_eq]
    simp only [DQ, toP, toPL, wD, wDL]
    omega
end PL
namespace PL
open PySem PySem.Spec L2
theorem frac_low (t b : Int) (hb : 0 < b) : DQ (Rat.divInt t b) = .tup [.int (t / ((Nat.gcd t.natAbs b.natAbs : Nat) : Int)), .int (b / ((Nat.gcd t.natAbs b.natAbs : Nat) : Int))] := by
  unfold DQ
  rw [Rat.num_divInt, Rat.den_divInt, if_neg (by omega)]
  have h1 : b.sign = 1 := Int.sign_eq_one_of_pos hb
  have h2 : Int.gcd b t = Nat.gcd t.natAbs b.natAbs := by rw [Int.gcd, Nat.gcd_comm]
  have h3 : ((b.natAbs / b.gcd t : Nat) : Int) = b / ((Nat.gcd t.natAbs b.natAbs : Nat) : Int) := by
    rw [h2, Int.natCast_ediv, Int.natAbs_of_nonneg (by omega)]
  rw [h1, h2, ← h3, h2, Int.one_mul]
theorem DQ_neg (q : Rat) : DQ (-q) = .tup [.int (-q.num), .int (q.den : Int)] := by
  unfold DQ
  rw [Rat.neg_num, Rat.neg_den]
theorem two_line : 2 ≤ sizeLine := le_line (by decide)
theorem q_half (q : Rat) : q / 2 = Rat.divInt q.num (2 * q.den) := by
  rw [q_div]
  have h1 : (2 : Rat).num = 2 := id rfl
  have h2 : (2 : Rat).den = 1 := id rfl
  rw [h1, h2]
  show Rat.divInt (q.num * 1) (q.den * 2) = _
  rw [Int.mul_one, Int.mul_comm]
theorem bd2 : Bd 2 2 := by unfold Bd; decide
theorem pop_at {a : Addr} {ds : List D} {d : D} {S : Sto} {P : PD} (h : S a = some (.lst (ds ++ [d]))) : oPop (.ref a) S P = P d (sput S a (.lst ds)) := by
  unfold oPop
  simp only [h]
  have e : (ds ++ [d])[(ds ++ [d]).length - 1]? = some d := by simp
  rw [e]
  simp
theorem app_at {a : Addr} {ds : List D} {d : D} {S : Sto} {P : PD} (h : S a = some (.lst ds)) : oApp (.ref a) d S P = (ds.length < sizeLine ∧ P .non (sput S a (.lst (ds ++ [d])))) := by
  unfold oApp
  simp only [h]
theorem idx_at0 {a : Addr} {d : D} {ds : List D} {S : Sto} {P : PD} (h : S a = some (.lst (d :: ds))) : oIdx (.ref a) (.int 0) S P = P d S := by
  unfold oIdx seqOf
  simp only [h]
  show (match atI (d :: ds) ((0 : Nat) : Int) with
    | some d => P d S
    | none => False) = _
  rw [at_nat]; rfl
theorem idx_at1 {a : Addr} {d e : D} {ds : List D} {S : Sto} {P : PD} (h : S a = some (.lst (d :: e :: ds))) : oIdx (.ref a) (.int 1) S P = P e S := by
  unfold oIdx seqOf
  simp only [h]
  show (match atI (d :: e :: ds) ((1 : Nat) : Int) with
    | some d => P d S
    | none => False) = _
  rw [at_nat]; rfl
theorem ok_ints (ns : List Int) : okD (.lst (ns.map D.int)) = true := by
  have h1 : norefL (ns.map D.int) = true := by
    induction ns with
    | nil => rfl
    | cons n r ih => simp [norefL, noref, ih]
  have h2 : PyData.canLayAll0 (toPL (ns.map D.int)) = true := by
    induction ns with
    | nil => rfl
    | cons n r ih =>
      simp only [List.map_cons, toPL, toP, PyData.canLayAll0, PyData.canLay0, Bool.true_and]
      refine ih ?_
      simpa [norefL, noref] using h1
  have h3 : PyData.depthAll (toPL (ns.map D.int)) ≤ 1 := by
    clear h1 h2
    induction ns with
    | nil => simp [toPL, PyData.depthAll]
    | cons n r ih =>
      simp only [List.map_cons, toPL, toP, PyData.depthAll, PyData.depth]
      omega
  unfold okD SeqAt.shaped
  simp only [noref, h1, toP, PyData.canLay0, h2, PyData.depth, Bool.true_and, decide_eq_true_eq]
  omega
theorem eq_nil (ns : List Int) : eqD (.lst (ns.map D.int)) (.lst []) = decide (ns = []) := by
  cases ns with
  | nil => simp [eqD, toP, toPL, PyData.eqv, PyData.eqvAll]
  | cons n r => simp [eqD, toP, toPL, PyData.eqv, PyData.eqvAll]
theorem one_nil {a : Addr} {ns : List Int} {S : Sto} {P : PD} (h : S a = some (.lst (ns.map D.int))) : oNe (.ref a) (.lst []) S P = P (.bl (!decide (ns = []))) S := by
  show (okD (res S (.ref a)) = true ∧ okD (res S (.lst [])) = true ∧ P (.bl (!eqD (res S (.ref a)) (res S (.lst [])))) S) = _
  have e : res S (.ref a) = .lst (ns.map D.int) := by unfold res; simp only [h]
  rw [e, res_lst, ok_ints, eq_nil]
  have : okD (.lst []) = true := id rfl
  rw [this]
  simp
theorem idx_last {a : Addr} {ns : List Int} {n : Int} {S : Sto} {P : PD} (h : S a = some (.lst ((ns ++ [n]).map D.int))) : oIdx (.ref a) (.int (-1)) S P = P (.int n) S := by
  unfold oIdx seqOf
  simp only [h]
  have e : atI ((ns ++ [n]).map D.int) (-1) = some (.int n) := by
    unfold atI ixN
    rw [if_neg (by decide), if_pos (by rw [List.length_map, List.length_append, List.length_singleton]; omega)]
    show ((ns ++ [n]).map D.int)[((-1 : Int) + (((ns ++ [n]).map D.int).length : Nat)).toNat]? = _
    have : ((-1 : Int) + (((ns ++ [n]).map D.int).length : Nat)).toNat = ns.length := by rw [List.length_map, List.length_append, List.length_singleton]; omega
    rw [this, List.getElem?_map, List.getElem?_append_right (Nat.le_refl _)]
    simp
  rw [e]
/-! ### the deal: a list of what is left to draw, and a blend -/
structure Dl (S : Sto) (p q : Addr) (ns : List Int) (b : Int) : Prop where
  sp : S p = some (.lst [.ref q, .int b])
  sq : S q = some (.lst (ns.map D.int))
  ne : q ≠ p
  len : ns.length ≤ 64
  nn : ∀ n ∈ ns, 0 ≤ n
  lo : 0 ≤ b
  hi : b < 2147483647
def Deal (S : Sto) (p q : Addr) : Prop := ∃ ns b, Dl S p q ns b
theorem Dl.deal {S : Sto} {p q : Addr} {ns : List Int} {b : Int} (h : Dl S p q ns b) : Deal S p q := ⟨ns, b, h⟩
/-- nothing else has changed -/
def Fr (p q : Addr) (S S' : Sto) : Prop := ∀ x, x ≠ p → x ≠ q → S' x = S x
theorem Fr.refl {p q : Addr} (S : Sto) : Fr p q S S := fun _ _ _ => rfl
theorem Fr.trans {p q : Addr} {S S1 S2 : Sto} (h : Fr p q S S1) (g : Fr p q S1 S2) : Fr p q S S2 := fun x a b => (g x a b).trans (h x a b)
theorem Fr.putQ {p q : Addr} {S S1 : Sto} {o : DO} (h : Fr p q S S1) : Fr p q S (sput S1 q o) := fun x a b => (sput_off b).trans (h x a b)
theorem Fr.putP {p q : Addr} {S S1 : Sto} {o : DO} (h : Fr p q S S1) : Fr p q S (sput S1 p o) := fun x a b => (sput_off a).trans (h x a b)
theorem Deal.put {S : Sto} {p q r : Addr} {o : DO} (h : Deal S p q) (hp : r ≠ p) (hq : r ≠ q) : Deal (sput S r o) p q := by
  obtain ⟨ns, b, h⟩ := h
  exact ⟨ns, b, by rw [sput_off (Ne.symm hp)]; exact h.sp, by rw [sput_off (Ne.symm hq)]; exact h.sq, h.ne, h.len, h.nn, h.lo, h.hi⟩
theorem Deal.of {S S' : Sto} {p q : Addr} (h : Deal S p q) (ep : S' p = S p) (eq : S' q = S q) : Deal S' p q := by
  obtain ⟨ns, b, h⟩ := h
  exact ⟨ns, b, by rw [ep]; exact h.sp, by rw [eq]; exact h.sq, h.ne, h.len, h.nn, h.lo, h.hi⟩
theorem Deal.neP {S : Sto} {p q r : Addr} (h : Deal S p q) (hr : S r = none) : r ≠ p := fun z => by
  obtain ⟨ns, b, h⟩ := h
  rw [z, h.sp] at hr; cases hr
theorem Deal.neQ {S : Sto} {p q r : Addr} (h : Deal S p q) (hr : S r = none) : r ≠ q := fun z => by
  obtain ⟨ns, b, h⟩ := h
  rw [z, h.sq] at hr; cases hr
theorem Dl.putQ {S : Sto} {p q : Addr} {ns ms : List Int} {b : Int} (h : Dl S p q ns b) (hl : ms.length ≤ 64) (hn : ∀ n ∈ ms, 0 ≤ n) : Dl (sput S q (.lst (ms.map D.int))) p q ms b :=
  ⟨by rw [sput_off (Ne.symm h.ne)]; exact h.sp, sput_at, h.ne, hl, hn, h.lo, h.hi⟩
theorem Dl.putB {S : Sto} {p q : Addr} {ns : List Int} {b c : Int} (h : Dl S p q ns b) (h0 : 0 ≤ c) (h1 : c < 2147483647) : Dl (sput S p (.lst [.ref q, .int c])) p q ns c :=
  ⟨sput_at, by rw [sput_off h.ne]; exact h.sq, h.ne, h.len, h.nn, h0, h1⟩
theorem xpop {u : WE} {r : Env} {S : Sto} {P : PD} {X : PX} : wPop u r S P X = u r S (fun x S1 => oPop x S1 P) X := id rfl
theorem xapp {u v : WE} {r : Env} {S : Sto} {P : PD} {X : PX} : wApp u v r S P X = u r S (fun x S1 => isL S1 x ∧ v r S1 (fun y S2 => oApp x y S2 P) X) X := id rfl
theorem isl {S : Sto} {a : Addr} {ds : List D} (h : S a = some (.lst ds)) : isL S (.ref a) = True := by
  unfold isL
  simp only [h]
theorem xsub {u v : WE} {d : D} {r : Env} {S : Sto} {R : Env → Sto → Prop} {X : PX} : gSubD u v d r S R X = u r S (fun o S1 => v r S1 (fun i S2 => oSet o i d S2 (fun S3 => R r S3)) X) X := id rfl
theorem set_at1 {a : Addr} {x y d : D} {S : Sto} {R : Sto → Prop} (h : S a = some (.lst [x, y])) : oSet (.ref a) (.int 1) d S R = R (sput S a (.lst [x, d])) := by
  unfold oSet
  simp only [h]
  have : ixN [x, y].length 1 = some 1 := by simp [ixN]
  simp only [this]
  rfl
theorem at_mem {α : Type} {xs : List α} {i : Int} (h0 : 0 ≤ i) (h1 : i < xs.length) : ∃ d ∈ xs, atI xs i = some d := by
  obtain ⟨k, rfl⟩ := Int.eq_ofNat_of_zero_le h0
  rw [at_nat]
  have hk : k < xs.length := by omega
  exact ⟨xs[k], List.getElem_mem hk, List.getElem?_eq_getElem hk⟩
theorem idx_any {es : List D} {i : Int} {S : Sto} {P : PD} (h0 : 0 ≤ i) (h1 : i < es.length) (h : ∀ d ∈ es, P d S) : oIdx (.lst es) (.int i) S P := by
  obtain ⟨d, hd, e⟩ := at_mem h0 h1
  show (match atI es i with
    | some d => P d S
    | none => False)
  rw [e]
  exact h d hd
theorem bd_len {n : Nat} (h : n ≤ 1000) : Bd 8000 (n : Int) := Bd.mono (m := 10) (by unfold Bd; rw [Int.natAbs_natCast]; have : (2 : Nat) ^ 10 = 1024 := (by decide); omega) (by decide)
theorem lv0 {t b : Int} (ht : Bd 75 t) (hb : Bd 75 b) (nz : b ≠ 0) : Lv 0 (Rat.divInt t b) := (Sz.divInt ht hb nz).mono (by decide)
theorem xslice {u : WE} {v : WE} {r : Env} {S : Sto} {P : PD} {X : PX} : wSlice u none (some v) r S P X = u r S (fun x S1 => v r S1 (fun d S' => match d with
  | .int i => oSlice x none (some i) S' P
  | _ => False) X) X := id rfl
theorem cut_all {ds : List D} {k : Nat} (h : ds.length ≤ k) : cutD ds none (some (k : Int)) = ds := by
  unfold cutD
  have e1 : HT.sIx ds.length 0 none = 0 := id rfl
  have e2 : HT.sIx ds.length ds.length (some (k : Int)) = ds.length := by
    rw [HT.sIx_nat]
    omega
  rw [e1, e2, List.drop_zero, Nat.sub_zero, List.take_length]
theorem oslice_all {ds : List D} {k : Nat} {S : Sto} {P : PD} (h : ds.length ≤ k) : oSlice (.lst ds) none (some (k : Int)) S P = P (.lst ds) S := by
  show P (.lst (cutD ds none (some (k : Int)))) S = _
  rw [cut_all h]
theorem xitems {u : WE} {r : Env} {S : Sto} {Q : List D → Sto → Prop} {X : PX} : wItems u r S Q X = u r S (fun d S' => match d with
  | .tup ds => Q ds S'
  | .lst ds => Q ds S'
  | _ => False) X := id rfl
theorem xrevN {u : WE} {r : Env} {S : Sto} {P : PD} {X : PX} : wRevN u r S P X = u r S (fun x S' => match x with
  | .tup _ => False
  | _ => match seqOf S' x with
    | some ds => ∀ p, S' p = none → P (.ref p) (sput S' p (.lst ds.reverse))
    | none => False) X := id rfl
theorem xnew {u : WA} {r : Env} {S : Sto} {P : PD} {X : PX} : wNew u r S P X = u r S (fun ds S1 => ds.length ≤ sizeLine ∧ ∀ p, S1 p = none → P (.ref p) (sput S1 p (.lst ds))) X := id rfl
theorem wip3 {a b c d : Option D} : wipeD [a, b, c, d] [3] = [a, b, c, none] := id rfl
theorem xtry {T : List Str} {sub : Str → Str → Bool} {m : Str} {i : Option Nat} {u : WS} {f : FX} {E : EndD} {Y : XS} {r : Env} {S : Sto} : sTry T sub m i u f E Y r S = u E (fun x env' S' => x.cls ∈ T ∧ (∀ j, i = some j → j < env'.length) ∧ if sub x.cls m = true then (match f x with
  | some y => E.rt y S'
  | none => False) else Y x env' S') r S := id rfl
theorem xtru {u : WE} {r : Env} {S : Sto} {Q : Bool → Sto → Prop} {X : PX} : wTru u r S Q X = u r S (fun d S' => match d with
  | .bl k => Q k S'
  | .non => Q false S'
  | .int i => Q (i != 0) S'
  | .str y => y.length ≤ sizeLine ∧ Q ((y.length : Int) != 0) S'
  | .tup ds => Q (!ds.isEmpty) S'
  | .lst ds => Q (!ds.isEmpty) S'
  | .ref a => match S' a with
    | some (.lst ds) => Q (!ds.isEmpty) S'
    | _ => False
  | .obj _ _ _ => False) X := id rfl
theorem xandV {u v : WE} {r : Env} {S : Sto} {P : PD} {X : PX} : wAndV u v r S P X = u r S (fun d S1 => match d with
  | .bl k => if k = true then v r S1 P X else P (.bl false) S1
  | _ => False) X := id rfl
theorem xgt {n : Nat} {gs : WGs} {ds : List D} {r : Env} {S : Sto} {R : Env → Sto → Prop} {X : PX} : gTupD n gs (.tup ds) r S R X = (ds.length = n ∧ gs ds r S R X) := id rfl
theorem xgtQ {n : Nat} {gs : WGs} {q : Rat} {r : Env} {S : Sto} {R : Env → Sto → Prop} {X : PX} : gTupD n gs (DQ q) r S R X = (2 = n ∧ gs [.int q.num, .int q.den] r S R X) := id rfl
theorem xgc {G : WG} {gs : WGs} {d : D} {ds : List D} {r : Env} {S : Sto} {R : Env → Sto → Prop} {X : PX} : gConsD G gs (d :: ds) r S R X = G d r S (fun e s => gs ds e s R X) X := id rfl
theorem xgn {ds : List D} {r : Env} {S : Sto} {R : Env → Sto → Prop} {X : PX} : gNilD ds r S R X = (ds = [] ∧ R r S) := id rfl
/-! ### comprehensions whose items change something -/
theorem lc_st {G : WG} {t : WB} {w : WE} {vs : List Nat} {env : Env} {p : Addr} {P : PD} (I : List D → Sto → Prop) : ∀ (ds acc : List D) (S : Sto), S p = some (.lst acc) → I acc S → acc.length + ds.length ≤ sizeLine →
    (∀ d ∈ ds, ∀ (acc : List D) (S : Sto), S p = some (.lst acc) → I acc S → ∀ R : Sto → Prop, (∀ S1 y, S1 p = some (.lst acc) → I (acc ++ [y]) (sput S1 p (.lst (acc ++ [y]))) → lcPut p y R S1) → G d (wipeD env vs) S (fun e1 S1 => t e1 S1 (fun b S2 => if b = true then w e1 S2 (fun y S3 => lcPut p y R S3) (fun _ _ => False) else R S2) (fun _ _ => False)) (fun _ _ => False)) →
    (∀ (out : List D) (S : Sto), S p = some (.lst out) → I out S → out.length = acc.length + ds.length → P (.lst out) (sdel S p)) → lcD G t w vs env p (lcEnd P p) ds S
  | [], acc, S, hp, hI, _, _, h => by
    show lcEnd P p S
    unfold lcEnd
    simp only [hp]
    exact h acc S hp hI (by rw [List.length_nil, Nat.add_zero])
  | d :: ds, acc, S, hp, hI, hl, hs, h => by
    rw [List.length_cons] at hl
    refine hs d List.mem_cons_self acc S hp hI _ fun S1 y h1 hI1 => ?_
    unfold lcPut
    simp only [h1]
    refine ⟨by omega, lc_st I ds (acc ++ [y]) _ sput_at hI1 (by rw [List.length_append, List.length_singleton]; omega) (fun d' hd => hs d' (List.mem_cons_of_mem _ hd)) fun out S ho hI2 e => h out S ho hI2 (by rw [e, List.length_append, List.length_singleton, List.length_cons]; omega)⟩
end PL
namespace PL
open PySem PySem.Spec L2
section
variable {a0 a1 a2 a3 a4 a5 a6 a7 a8 a9 a10 a11 a12 a13 a14 a15 a16 a17 a18 a19 a20 a21 a22 a23 a24 a25 a26 a27 a28 a29 a30 a31 a32 a33 a34 a35 a36 a37 a38 a39 a40 a41 : Option D} {r : List (Option D)} {x : D} {S : Sto} {P : PD} {X : PX} {R : Env → Sto → Prop}
theorem v10 : wVar 10 (a0 :: a1 :: a2 :: a3 :: a4 :: a5 :: a6 :: a7 :: a8 :: a9 :: some x :: r) S P X = P x S := id rfl
theorem v11 : wVar 11 (a0 :: a1 :: a2 :: a3 :: a4 :: a5 :: a6 :: a7 :: a8 :: a9 :: a10 :: some x :: r) S P X = P x S := id rfl
theorem v12 : wVar 12 (a0 :: a1 :: a2 :: a3 :: a4 :: a5 :: a6 :: a7 :: a8 :: a9 :: a10 :: a11 :: some x :: r) S P X = P x S := id rfl
theorem v13 : wVar 13 (a0 :: a1 :: a2 :: a3 :: a4 :: a5 :: a6 :: a7 :: a8 :: a9 :: a10 :: a11 :: a12 :: some x :: r) S P X = P x S := id rfl
theorem v14 : wVar 14 (a0 :: a1 :: a2 :: a3 :: a4 :: a5 :: a6 :: a7 :: a8 :: a9 :: a10 :: a11 :: a12 :: a13 :: some x :: r) S P X = P x S := id rfl
theorem v15 : wVar 15 (a0 :: a1 :: a2 :: a3 :: a4 :: a5 :: a6 :: a7 :: a8 :: a9 :: a10 :: a11 :: a12 :: a13 :: a14 :: some x :: r) S P X = P x S := id rfl
theorem v16 : wVar 16 (a0 :: a1 :: a2 :: a3 :: a4 :: a5 :: a6 :: a7 :: a8 :: a9 :: a10 :: a11 :: a12 :: a13 :: a14 :: a15 :: some x :: r) S P X = P x S := id rfl
theorem v17 : wVar 17 (a0 :: a1 :: a2 :: a3 :: a4 :: a5 :: a6 :: a7 :: a8 :: a9 :: a10 :: a11 :: a12 :: a13 :: a14 :: a15 :: a16 :: some x :: r) S P X = P x S := id rfl
theorem v18 : wVar 18 (a0 :: a1 :: a2 :: a3 :: a4 :: a5 :: a6 :: a7 :: a8 :: a9 :: a10 :: a11 :: a12 :: a13 :: a14 :: a15 :: a16 :: a17 :: some x :: r) S P X = P x S := id rfl
theorem v19 : wVar 19 (a0 :: a1 :: a2 :: a3 :: a4 :: a5 :: a6 :: a7 :: a8 :: a9 :: a10 :: a11 :: a12 :: a13 :: a14 :: a15 :: a16 :: a17 :: a18 :: some x :: r) S P X = P x S := id rfl
theorem v20 : wVar 20 (a0 :: a1 :: a2 :: a3 :: a4 :: a5 :: a6 :: a7 :: a8 :: a9 :: a10 :: a11 :: a12 :: a13 :: a14 :: a15 :: a16 :: a17 :: a18 :: a19 :: some x :: r) S P X = P x S := id rfl
theorem v21 : wVar 21 (a0 :: a1 :: a2 :: a3 :: a4 :: a5 :: a6 :: a7 :: a8 :: a9 :: a10 :: a11 :: a12 :: a13 :: a14 :: a15 :: a16 :: a17 :: a18 :: a19 :: a20 :: some x :: r) S P X = P x S := id rfl
theorem v22 : wVar 22 (a0 :: a1 :: a2 :: a3 :: a4 :: a5 :: a6 :: a7 :: a8 :: a9 :: a10 :: a11 :: a12 :: a13 :: a14 :: a15 :: a16 :: a17 :: a18 :: a19 :: a20 :: a21 :: some x :: r) S P X = P x S := id rfl
theorem v23 : wVar 23 (a0 :: a1 :: a2 :: a3 :: a4 :: a5 :: a6 :: a7 :: a8 :: a9 :: a10 :: a11 :: a12 :: a13 :: a14 :: a15 :: a16 :: a17 :: a18 :: a19 :: a20 :: a21 :: a22 :: some x :: r) S P X = P x S := id rfl
theorem v24 : wVar 24 (a0 :: a1 :: a2 :: a3 :: a4 :: a5 :: a6 :: a7 :: a8 :: a9 :: a10 :: a11 :: a12 :: a13 :: a14 :: a15 :: a16 :: a17 :: a18 :: a19 :: a20 :: a21 :: a22 :: a23 :: some x :: r) S P X = P x S := id rfl
theorem v25 : wVar 25 (a0 :: a1 :: a2 :: a3 :: a4 :: a5 :: a6 :: a7 :: a8 :: a9 :: a10 :: a11 :: a12 :: a13 :: a14 :: a15 :: a16 :: a17 :: a18 :: a19 :: a20 :: a21 :: a22 :: a23 :: a24 :: some x :: r) S P X = P x S := id rfl
theorem v26 : wVar 26 (a0 :: a1 :: a2 :: a3 :: a4 :: a5 :: a6 :: a7 :: a8 :: a9 :: a10 :: a11 :: a12 :: a13 :: a14 :: a15 :: a16 :: a17 :: a18 :: a19 :: a20 :: a21 :: a22 :: a23 :: a24 :: a25 :: some x :: r) S P X = P x S := id rfl
theorem v27 : wVar 27 (a0 :: a1 :: a2 :: a3 :: a4 :: a5 :: a6 :: a7 :: a8 :: a9 :: a10 :: a11 :: a12 :: a13 :: a14 :: a15 :: a16 :: a17 :: a18 :: a19 :: a20 :: a21 :: a22 :: a23 :: a24 :: a25 :: a26 :: some x :: r) S P X = P x S := id rfl
theorem v28 : wVar 28 (a0 :: a1 :: a2 :: a3 :: a4 :: a5 :: a6 :: a7 :: a8 :: a9 :: a10 :: a11 :: a12 :: a13 :: a14 :: a15 :: a16 :: a17 :: a18 :: a19 :: a20 :: a21 :: a22 :: a23 :: a24 :: a25 :: a26 :: a27 :: some x :: r) S P X = P x S := id rfl
theorem v29 : wVar 29 (a0 :: a1 :: a2 :: a3 :: a4 :: a5 :: a6 :: a7 :: a8 :: a9 :: a10 :: a11 :: a12 :: a13 :: a14 :: a15 :: a16 :: a17 :: a18 :: a19 :: a20 :: a21 :: a22 :: a23 :: a24 :: a25 :: a26 :: a27 :: a28 :: some x :: r) S P X = P x S := id rfl
theorem v30 : wVar 30 (a0 :: a1 :: a2 :: a3 :: a4 :: a5 :: a6 :: a7 :: a8 :: a9 :: a10 :: a11 :: a12 :: a13 :: a14 :: a15 :: a16 :: a17 :: a18 :: a19 :: a20 :: a21 :: a22 :: a23 :: a24 :: a25 :: a26 :: a27 :: a28 :: a29 :: some x :: r) S P X = P x S := id rfl
theorem v31 : wVar 31 (a0 :: a1 :: a2 :: a3 :: a4 :: a5 :: a6 :: a7 :: a8 :: a9 :: a10 :: a11 :: a12 :: a13 :: a14 :: a15 :: a16 :: a17 :: a18 :: a19 :: a20 :: a21 :: a22 :: a23 :: a24 :: a25 :: a26 :: a27 :: a28 :: a29 :: a30 :: some x :: r) S P X = P x S := id rfl
theorem v32 : wVar 32 (a0 :: a1 :: a2 :: a3 :: a4 :: a5 :: a6 :: a7 :: a8 :: a9 :: a10 :: a11 :: a12 :: a13 :: a14 :: a15 :: a16 :: a17 :: a18 :: a19 :: a20 :: a21 :: a22 :: a23 :: a24 :: a25 :: a26 :: a27 :: a28 :: a29 :: a30 :: a31 :: some x :: r) S P X = P x S := id rfl
theorem v33 : wVar 33 (a0 :: a1 :: a2 :: a3 :: a4 :: a5 :: a6 :: a7 :: a8 :: a9 :: a10 :: a11 :: a12 :: a13 :: a14 :: a15 :: a16 :: a17 :: a18 :: a19 :: a20 :: a21 :: a22 :: a23 :: a24 :: a25 :: a26 :: a27 :: a28 :: a29 :: a30 :: a31 :: a32 :: some x :: r) S P X = P x S := id rfl
theorem v34 : wVar 34 (a0 :: a1 :: a2 :: a3 :: a4 :: a5 :: a6 :: a7 :: a8 :: a9 :: a10 :: a11 :: a12 :: a13 :: a14 :: a15 :: a16 :: a17 :: a18 :: a19 :: a20 :: a21 :: a22 :: a23 :: a24 :: a25 :: a26 :: a27 :: a28 :: a29 :: a30 :: a31 :: a32 :: a33 :: some x :: r) S P X = P x S := id rfl
theorem v35 : wVar 35 (a0 :: a1 :: a2 :: a3 :: a4 :: a5 :: a6 :: a7 :: a8 :: a9 :: a10 :: a11 :: a12 :: a13 :: a14 :: a15 :: a16 :: a17 :: a18 :: a19 :: a20 :: a21 :: a22 :: a23 :: a24 :: a25 :: a26 :: a27 :: a28 :: a29 :: a30 :: a31 :: a32 :: a33 :: a34 :: some x :: r) S P X = P x S := id rfl
theorem v36 : wVar 36 (a0 :: a1 :: a2 :: a3 :: a4 :: a5 :: a6 :: a7 :: a8 :: a9 :: a10 :: a11 :: a12 :: a13 :: a14 :: a15 :: a16 :: a17 :: a18 :: a19 :: a20 :: a21 :: a22 :: a23 :: a24 :: a25 :: a26 :: a27 :: a28 :: a29 :: a30 :: a31 :: a32 :: a33 :: a34 :: a35 :: some x :: r) S P X = P x S := id rfl
theorem v37 : wVar 37 (a0 :: a1 :: a2 :: a3 :: a4 :: a5 :: a6 :: a7 :: a8 :: a9 :: a10 :: a11 :: a12 :: a13 :: a14 :: a15 :: a16 :: a17 :: a18 :: a19 :: a20 :: a21 :: a22 :: a23 :: a24 :: a25 :: a26 :: a27 :: a28 :: a29 :: a30 :: a31 :: a32 :: a33 :: a34 :: a35 :: a36 :: some x :: r) S P X = P x S := id rfl
theorem v38 : wVar 38 (a0 :: a1 :: a2 :: a3 :: a4 :: a5 :: a6 :: a7 :: a8 :: a9 :: a10 :: a11 :: a12 :: a13 :: a14 :: a15 :: a16 :: a17 :: a18 :: a19 :: a20 :: a21 :: a22 :: a23 :: a24 :: a25 :: a26 :: a27 :: a28 :: a29 :: a30 :: a31 :: a32 :: a33 :: a34 :: a35 :: a36 :: a37 :: some x :: r) S P X = P x S := id rfl
theorem v39 : wVar 39 (a0 :: a1 :: a2 :: a3 :: a4 :: a5 :: a6 :: a7 :: a8 :: a9 :: a10 :: a11 :: a12 :: a13 :: a14 :: a15 :: a16 :: a17 :: a18 :: a19 :: a20 :: a21 :: a22 :: a23 :: a24 :: a25 :: a26 :: a27 :: a28 :: a29 :: a30 :: a31 :: a32 :: a33 :: a34 :: a35 :: a36 :: a37 :: a38 :: some x :: r) S P X = P x S := id rfl
theorem v40 : wVar 40 (a0 :: a1 :: a2 :: a3 :: a4 :: a5 :: a6 :: a7 :: a8 :: a9 :: a10 :: a11 :: a12 :: a13 :: a14 :: a15 :: a16 :: a17 :: a18 :: a19 :: a20 :: a21 :: a22 :: a23 :: a24 :: a25 :: a26 :: a27 :: a28 :: a29 :: a30 :: a31 :: a32 :: a33 :: a34 :: a35 :: a36 :: a37 :: a38 :: a39 :: some x :: r) S P X = P x S := id rfl
theorem g9 : gVar 9 x (a0 :: a1 :: a2 :: a3 :: a4 :: a5 :: a6 :: a7 :: a8 :: a9 :: r) S R X = R (a0 :: a1 :: a2 :: a3 :: a4 :: a5 :: a6 :: a7 :: a8 :: some x :: r) S := id rfl
theorem g10 : gVar 10 x (a0 :: a1 :: a2 :: a3 :: a4 :: a5 :: a6 :: a7 :: a8 :: a9 :: a10 :: r) S R X = R (a0 :: a1 :: a2 :: a3 :: a4 :: a5 :: a6 :: a7 :: a8 :: a9 :: some x :: r) S := id rfl
theorem g11 : gVar 11 x (a0 :: a1 :: a2 :: a3 :: a4 :: a5 :: a6 :: a7 :: a8 :: a9 :: a10 :: a11 :: r) S R X = R (a0 :: a1 :: a2 :: a3 :: a4 :: a5 :: a6 :: a7 :: a8 :: a9 :: a10 :: some x :: r) S := id rfl
theorem g12 : gVar 12 x (a0 :: a1 :: a2 :: a3 :: a4 :: a5 :: a6 :: a7 :: a8 :: a9 :: a10 :: a11 :: a12 :: r) S R X = R (a0 :: a1 :: a2 :: a3 :: a4 :: a5 :: a6 :: a7 :: a8 :: a9 :: a10 :: a11 :: some x :: r) S := id rfl
theorem g13 : gVar 13 x (a0 :: a1 :: a2 :: a3 :: a4 :: a5 :: a6 :: a7 :: a8 :: a9 :: a10 :: a11 :: a12 :: a13 :: r) S R X = R (a0 :: a1 :: a2 :: a3 :: a4 :: a5 :: a6 :: a7 :: a8 :: a9 :: a10 :: a11 :: a12 :: some x :: r) S := id rfl
theorem g14 : gVar 14 x (a0 :: a1 :: a2 :: a3 :: a4 :: a5 :: a6 :: a7 :: a8 :: a9 :: a10 :: a11 :: a12 :: a13 :: a14 :: r) S R X = R (a0 :: a1 :: a2 :: a3 :: a4 :: a5 :: a6 :: a7 :: a8 :: a9 :: a10 :: a11 :: a12 :: a13 :: some x :: r) S := id rfl
theorem g15 : gVar 15 x (a0 :: a1 :: a2 :: a3 :: a4 :: a5 :: a6 :: a7 :: a8 :: a9 :: a10 :: a11 :: a12 :: a13 :: a14 :: a15 :: r) S R X = R (a0 :: a1 :: a2 :: a3 :: a4 :: a5 :: a6 :: a7 :: a8 :: a9 :: a10 :: a11 :: a12 :: a13 :: a14 :: some x :: r) S := id rfl
theorem g16 : gVar 16 x (a0 :: a1 :: a2 :: a3 :: a4 :: a5 :: a6 :: a7 :: a8 :: a9 :: a10 :: a11 :: a12 :: a13 :: a14 :: a15 :: a16 :: r) S R X = R (a0 :: a1 :: a2 :: a3 :: a4 :: a5 :: a6 :: a7 :: a8 :: a9 :: a10 :: a11 :: a12 :: a13 :: a14 :: a15 :: some x :: r) S := id rfl
theorem g17 : gVar 17 x (a0 :: a1 :: a2 :: a3 :: a4 :: a5 :: a6 :: a7 :: a8 :: a9 :: a10 :: a11 :: a12 :: a13 :: a14 :: a15 :: a16 :: a17 :: r) S R X = R (a0 :: a1 :: a2 :: a3 :: a4 :: a5 :: a6 :: a7 :: a8 :: a9 :: a10 :: a11 :: a12 :: a13 :: a14 :: a15 :: a16 :: some x :: r) S := id rfl
theorem g18 : gVar 18 x (a0 :: a1 :: a2 :: a3 :: a4 :: a5 :: a6 :: a7 :: a8 :: a9 :: a10 :: a11 :: a12 :: a13 :: a14 :: a15 :: a16 :: a17 :: a18 :: r) S R X = R (a0 :: a1 :: a2 :: a3 :: a4 :: a5 :: a6 :: a7 :: a8 :: a9 :: a10 :: a11 :: a12 :: a13 :: a14 :: a15 :: a16 :: a17 :: some x :: r) S := id rfl
theorem g19 : gVar 19 x (a0 :: a1 :: a2 :: a3 :: a4 :: a5 :: a6 :: a7 :: a8 :: a9 :: a10 :: a11 :: a12 :: a13 :: a14 :: a15 :: a16 :: a17 :: a18 :: a19 :: r) S R X = R (a0 :: a1 :: a2 :: a3 :: a4 :: a5 :: a6 :: a7 :: a8 :: a9 :: a10 :: a11 :: a12 :: a13 :: a14 :: a15 :: a16 :: a17 :: a18 :: some x :: r) S := id rfl
theorem g20 : gVar 20 x (a0 :: a1 :: a2 :: a3 :: a4 :: a5 :: a6 :: a7 :: a8 :: a9 :: a10 :: a11 :: a12 :: a13 :: a14 :: a15 :: a16 :: a17 :: a18 :: a19 :: a20 :: r) S R X = R (a0 :: a1 :: a2 :: a3 :: a4 :: a5 :: a6 :: a7 :: a8 :: a9 :: a10 :: a11 :: a12 :: a13 :: a14 :: a15 :: a16 :: a17 :: a18 :: a19 :: some x :: r) S := id rfl
theorem g21 : gVar 21 x (a0 :: a1 :: a2 :: a3 :: a4 :: a5 :: a6 :: a7 :: a8 :: a9 :: a10 :: a11 :: a12 :: a13 :: a14 :: a15 :: a16 :: a17 :: a18 :: a19 :: a20 :: a21 :: r) S R X = R (a0 :: a1 :: a2 :: a3 :: a4 :: a5 :: a6 :: a7 :: a8 :: a9 :: a10 :: a11 :: a12 :: a13 :: a14 :: a15 :: a16 :: a17 :: a18 :: a19 :: a20 :: some x :: r) S := id rfl
theorem g22 : gVar 22 x (a0 :: a1 :: a2 :: a3 :: a4 :: a5 :: a6 :: a7 :: a8 :: a9 :: a10 :: a11 :: a12 :: a13 :: a14 :: a15 :: a16 :: a17 :: a18 :: a19 :: a20 :: a21 :: a22 :: r) S R X = R (a0 :: a1 :: a2 :: a3 :: a4 :: a5 :: a6 :: a7 :: a8 :: a9 :: a10 :: a11 :: a12 :: a13 :: a14 :: a15 :: a16 :: a17 :: a18 :: a19 :: a20 :: a21 :: some x :: r) S := id rfl
theorem g23 : gVar 23 x (a0 :: a1 :: a2 :: a3 :: a4 :: a5 :: a6 :: a7 :: a8 :: a9 :: a10 :: a11 :: a12 :: a13 :: a14 :: a15 :: a16 :: a17 :: a18 :: a19 :: a20 :: a21 :: a22 :: a23 :: r) S R X = R (a0 :: a1 :: a2 :: a3 :: a4 :: a5 :: a6 :: a7 :: a8 :: a9 :: a10 :: a11 :: a12 :: a13 :: a14 :: a15 :: a16 :: a17 :: a18 :: a19 :: a20 :: a21 :: a22 :: some x :: r) S := id rfl
theorem g24 : gVar 24 x (a0 :: a1 :: a2 :: a3 :: a4 :: a5 :: a6 :: a7 :: a8 :: a9 :: a10 :: a11 :: a12 :: a13 :: a14 :: a15 :: a16 :: a17 :: a18 :: a19 :: a20 :: a21 :: a22 :: a23 :: a24 :: r) S R X = R (a0 :: a1 :: a2 :: a3 :: a4 :: a5 :: a6 :: a7 :: a8 :: a9 :: a10 :: a11 :: a12 :: a13 :: a14 :: a15 :: a16 :: a17 :: a18 :: a19 :: a20 :: a21 :: a22 :: a23 :: some x :: r) S := id rfl
theorem g25 : gVar 25 x (a0 :: a1 :: a2 :: a3 :: a4 :: a5 :: a6 :: a7 :: a8 :: a9 :: a10 :: a11 :: a12 :: a13 :: a14 :: a15 :: a16 :: a17 :: a18 :: a19 :: a20 :: a21 :: a22 :: a23 :: a24 :: a25 :: r) S R X = R (a0 :: a1 :: a2 :: a3 :: a4 :: a5 :: a6 :: a7 :: a8 :: a9 :: a10 :: a11 :: a12 :: a13 :: a14 :: a15 :: a16 :: a17 :: a18 :: a19 :: a20 :: a21 :: a22 :: a23 :: a24 :: some x :: r) S := id rfl
theorem g26 : gVar 26 x (a0 :: a1 :: a2 :: a3 :: a4 :: a5 :: a6 :: a7 :: a8 :: a9 :: a10 :: a11 :: a12 :: a13 :: a14 :: a15 :: a16 :: a17 :: a18 :: a19 :: a20 :: a21 :: a22 :: a23 :: a24 :: a25 :: a26 :: r) S R X = R (a0 :: a1 :: a2 :: a3 :: a4 :: a5 :: a6 :: a7 :: a8 :: a9 :: a10 :: a11 :: a12 :: a13 :: a14 :: a15 :: a16 :: a17 :: a18 :: a19 :: a20 :: a21 :: a22 :: a23 :: a24 :: a25 :: some x :: r) S := id rfl
theorem g27 : gVar 27 x (a0 :: a1 :: a2 :: a3 :: a4 :: a5 :: a6 :: a7 :: a8 :: a9 :: a10 :: a11 :: a12 :: a13 :: a14 :: a15 :: a16 :: a17 :: a18 :: a19 :: a20 :: a21 :: a22 :: a23 :: a24 :: a25 :: a26 :: a27 :: r) S R X = R (a0 :: a1 :: a2 :: a3 :: a4 :: a5 :: a6 :: a7 :: a8 :: a9 :: a10 :: a11 :: a12 :: a13 :: a14 :: a15 :: a16 :: a17 :: a18 :: a19 :: a20 :: a21 :: a22 :: a23 :: a24 :: a25 :: a26 :: some x :: r) S := id rfl
theorem g28 : gVar 28 x (a0 :: a1 :: a2 :: a3 :: a4 :: a5 :: a6 :: a7 :: a8 :: a9 :: a10 :: a11 :: a12 :: a13 :: a14 :: a15 :: a16 :: a17 :: a18 :: a19 :: a20 :: a21 :: a22 :: a23 :: a24 :: a25 :: a26 :: a27 :: a28 :: r) S R X = R (a0 :: a1 :: a2 :: a3 :: a4 :: a5 :: a6 :: a7 :: a8 :: a9 :: a10 :: a11 :: a12 :: a13 :: a14 :: a15 :: a16 :: a17 :: a18 :: a19 :: a20 :: a21 :: a22 :: a23 :: a24 :: a25 :: a26 :: a27 :: some x :: r) S := id rfl
theorem g29 : gVar 29 x (a0 :: a1 :: a2 :: a3 :: a4 :: a5 :: a6 :: a7 :: a8 :: a9 :: a10 :: a11 :: a12 :: a13 :: a14 :: a15 :: a16 :: a17 :: a18 :: a19 :: a20 :: a21 :: a22 :: a23 :: a24 :: a25 :: a26 :: a27 :: a28 :: a29 :: r) S R X = R (a0 :: a1 :: a2 :: a3 :: a4 :: a5 :: a6 :: a7 :: a8 :: a9 :: a10 :: a11 :: a12 :: a13 :: a14 :: a15 :: a16 :: a17 :: a18 :: a19 :: a20 :: a21 :: a22 :: a23 :: a24 :: a25 :: a26 :: a27 :: a28 :: some x :: r) S := id rfl
theorem g30 : gVar 30 x (a0 :: a1 :: a2 :: a3 :: a4 :: a5 :: a6 :: a7 :: a8 :: a9 :: a10 :: a11 :: a12 :: a13 :: a14 :: a15 :: a16 :: a17 :: a18 :: a19 :: a20 :: a21 :: a22 :: a23 :: a24 :: a25 :: a26 :: a27 :: a28 :: a29 :: a30 :: r) S R X = R (a0 :: a1 :: a2 :: a3 :: a4 :: a5 :: a6 :: a7 :: a8 :: a9 :: a10 :: a11 :: a12 :: a13 :: a14 :: a15 :: a16 :: a17 :: a18 :: a19 :: a20 :: a21 :: a22 :: a23 :: a24 :: a25 :: a26 :: a27 :: a28 :: a29 :: some x :: r) S := id rfl
theorem g31 : gVar 31 x (a0 :: a1 :: a2 :: a3 :: a4 :: a5 :: a6 :: a7 :: a8 :: a9 :: a10 :: a11 :: a12 :: a13 :: a14 :: a15 :: a16 :: a17 :: a18 :: a19 :: a20 :: a21 :: a22 :: a23 :: a24 :: a25 :: a26 :: a27 :: a28 :: a29 :: a30 :: a31 :: r) S R X = R (a0 :: a1 :: a2 :: a3 :: a4 :: a5 :: a6 :: a7 :: a8 :: a9 :: a10 :: a11 :: a12 :: a13 :: a14 :: a15 :: a16 :: a17 :: a18 :: a19 :: a20 :: a21 :: a22 :: a23 :: a24 :: a25 :: a26 :: a27 :: a28 :: a29 :: a30 :: some x :: r) S := id rfl
theorem g32 : gVar 32 x (a0 :: a1 :: a2 :: a3 :: a4 :: a5 :: a6 :: a7 :: a8 :: a9 :: a10 :: a11 :: a12 :: a13 :: a14 :: a15 :: a16 :: a17 :: a18 :: a19 :: a20 :: a21 :: a22 :: a23 :: a24 :: a25 :: a26 :: a27 :: a28 :: a29 :: a30 :: a31 :: a32 :: r) S R X = R (a0 :: a1 :: a2 :: a3 :: a4 :: a5 :: a6 :: a7 :: a8 :: a9 :: a10 :: a11 :: a12 :: a13 :: a14 :: a15 :: a16 :: a17 :: a18 :: a19 :: a20 :: a21 :: a22 :: a23 :: a24 :: a25 :: a26 :: a27 :: a28 :: a29 :: a30 :: a31 :: some x :: r) S := id rfl
theorem g33 : gVar 33 x (a0 :: a1 :: a2 :: a3 :: a4 :: a5 :: a6 :: a7 :: a8 :: a9 :: a10 :: a11 :: a12 :: a13 :: a14 :: a15 :: a16 :: a17 :: a18 :: a19 :: a20 :: a21 :: a22 :: a23 :: a24 :: a25 :: a26 :: a27 :: a28 :: a29 :: a30 :: a31 :: a32 :: a33 :: r) S R X = R (a0 :: a1 :: a2 :: a3 :: a4 :: a5 :: a6 :: a7 :: a8 :: a9 :: a10 :: a11 :: a12 :: a13 :: a14 :: a15 :: a16 :: a17 :: a18 :: a19 :: a20 :: a21 :: a22 :: a23 :: a24 :: a25 :: a26 :: a27 :: a28 :: a29 :: a30 :: a31 :: a32 :: some x :: r) S := id rfl
theorem g34 : gVar 34 x (a0 :: a1 :: a2 :: a3 :: a4 :: a5 :: a6 :: a7 :: a8 :: a9 :: a10 :: a11 :: a12 :: a13 :: a14 :: a15 :: a16 :: a17 :: a18 :: a19 :: a20 :: a21 :: a22 :: a23 :: a24 :: a25 :: a26 :: a27 :: a28 :: a29 :: a30 :: a31 :: a32 :: a33 :: a34 :: r) S R X = R (a0 :: a1 :: a2 :: a3 :: a4 :: a5 :: a6 :: a7 :: a8 :: a9 :: a10 :: a11 :: a12 :: a13 :: a14 :: a15 :: a16 :: a17 :: a18 :: a19 :: a20 :: a21 :: a22 :: a23 :: a24 :: a25 :: a26 :: a27 :: a28 :: a29 :: a30 :: a31 :: a32 :: a33 :: some x :: r) S := id rfl
theorem g35 : gVar 35 x (a0 :: a1 :: a2 :: a3 :: a4 :: a5 :: a6 :: a7 :: a8 :: a9 :: a10 :: a11 :: a12 :: a13 :: a14 :: a15 :: a16 :: a17 :: a18 :: a19 :: a20 :: a21 :: a22 :: a23 :: a24 :: a25 :: a26 :: a27 :: a28 :: a29 :: a30 :: a31 :: a32 :: a33 :: a34 :: a35 :: r) S R X = R (a0 :: a1 :: a2 :: a3 :: a4 :: a5 :: a6 :: a7 :: a8 :: a9 :: a10 :: a11 :: a12 :: a13 :: a14 :: a15 :: a16 :: a17 :: a18 :: a19 :: a20 :: a21 :: a22 :: a23 :: a24 :: a25 :: a26 :: a27 :: a28 :: a29 :: a30 :: a31 :: a32 :: a33 :: a34 :: some x :: r) S := id rfl
theorem g36 : gVar 36 x (a0 :: a1 :: a2 :: a3 :: a4 :: a5 :: a6 :: a7 :: a8 :: a9 :: a10 :: a11 :: a12 :: a13 :: a14 :: a15 :: a16 :: a17 :: a18 :: a19 :: a20 :: a21 :: a22 :: a23 :: a24 :: a25 :: a26 :: a27 :: a28 :: a29 :: a30 :: a31 :: a32 :: a33 :: a34 :: a35 :: a36 :: r) S R X = R (a0 :: a1 :: a2 :: a3 :: a4 :: a5 :: a6 :: a7 :: a8 :: a9 :: a10 :: a11 :: a12 :: a13 :: a14 :: a15 :: a16 :: a17 :: a18 :: a19 :: a20 :: a21 :: a22 :: a23 :: a24 :: a25 :: a26 :: a27 :: a28 :: a29 :: a30 :: a31 :: a32 :: a33 :: a34 :: a35 :: some x :: r) S := id rfl
theorem g37 : gVar 37 x (a0 :: a1 :: a2 :: a3 :: a4 :: a5 :: a6 :: a7 :: a8 :: a9 :: a10 :: a11 :: a12 :: a13 :: a14 :: a15 :: a16 :: a17 :: a18 :: a19 :: a20 :: a21 :: a22 :: a23 :: a24 :: a25 :: a26 :: a27 :: a28 :: a29 :: a30 :: a31 :: a32 :: a33 :: a34 :: a35 :: a36 :: a37 :: r) S R X = R (a0 :: a1 :: a2 :: a3 :: a4 :: a5 :: a6 :: a7 :: a8 :: a9 :: a10 :: a11 :: a12 :: a13 :: a14 :: a15 :: a16 :: a17 :: a18 :: a19 :: a20 :: a21 :: a22 :: a23 :: a24 :: a25 :: a26 :: a27 :: a28 :: a29 :: a30 :: a31 :: a32 :: a33 :: a34 :: a35 :: a36 :: some x :: r) S := id rfl
theorem g38 : gVar 38 x (a0 :: a1 :: a2 :: a3 :: a4 :: a5 :: a6 :: a7 :: a8 :: a9 :: a10 :: a11 :: a12 :: a13 :: a14 :: a15 :: a16 :: a17 :: a18 :: a19 :: a20 :: a21 :: a22 :: a23 :: a24 :: a25 :: a26 :: a27 :: a28 :: a29 :: a30 :: a31 :: a32 :: a33 :: a34 :: a35 :: a36 :: a37 :: a38 :: r) S R X = R (a0 :: a1 :: a2 :: a3 :: a4 :: a5 :: a6 :: a7 :: a8 :: a9 :: a10 :: a11 :: a12 :: a13 :: a14 :: a15 :: a16 :: a17 :: a18 :: a19 :: a20 :: a21 :: a22 :: a23 :: a24 :: a25 :: a26 :: a27 :: a28 :: a29 :: a30 :: a31 :: a32 :: a33 :: a34 :: a35 :: a36 :: a37 :: some x :: r) S := id rfl
theorem g39 : gVar 39 x (a0 :: a1 :: a2 :: a3 :: a4 :: a5 :: a6 :: a7 :: a8 :: a9 :: a10 :: a11 :: a12 :: a13 :: a14 :: a15 :: a16 :: a17 :: a18 :: a19 :: a20 :: a21 :: a22 :: a23 :: a24 :: a25 :: a26 :: a27 :: a28 :: a29 :: a30 :: a31 :: a32 :: a33 :: a34 :: a35 :: a36 :: a37 :: a38 :: a39 :: r) S R X = R (a0 :: a1 :: a2 :: a3 :: a4 :: a5 :: a6 :: a7 :: a8 :: a9 :: a10 :: a11 :: a12 :: a13 :: a14 :: a15 :: a16 :: a17 :: a18 :: a19 :: a20 :: a21 :: a22 :: a23 :: a24 :: a25 :: a26 :: a27 :: a28 :: a29 :: a30 :: a31 :: a32 :: a33 :: a34 :: a35 :: a36 :: a37 :: a38 :: some x :: r) S := id rfl
theorem g40 : gVar 40 x (a0 :: a1 :: a2 :: a3 :: a4 :: a5 :: a6 :: a7 :: a8 :: a9 :: a10 :: a11 :: a12 :: a13 :: a14 :: a15 :: a16 :: a17 :: a18 :: a19 :: a20 :: a21 :: a22 :: a23 :: a24 :: a25 :: a26 :: a27 :: a28 :: a29 :: a30 :: a31 :: a32 :: a33 :: a34 :: a35 :: a36 :: a37 :: a38 :: a39 :: a40 :: r) S R X = R (a0 :: a1 :: a2 :: a3 :: a4 :: a5 :: a6 :: a7 :: a8 :: a9 :: a10 :: a11 :: a12 :: a13 :: a14 :: a15 :: a16 :: a17 :: a18 :: a19 :: a20 :: a21 :: a22 :: a23 :: a24 :: a25 :: a26 :: a27 :: a28 :: a29 :: a30 :: a31 :: a32 :: a33 :: a34 :: a35 :: a36 :: a37 :: a38 :: a39 :: some x :: r) S := id rfl
end
end PL
namespace PL
open PySem PySem.Spec L2
/-! ### equal to itself -/
mutual
theorem eqv_self : ∀ d : D, PyData.eqv (toP d) (toP d) = true
  | .non => by simp [toP, PyData.eqv]
  | .bl b => by simp [toP, PyData.eqv]
  | .int i => by simp [toP, PyData.eqv]
  | .str x => by simp [toP, PyData.eqv]
  | .ref a => by simp [toP, PyData.eqv]
  | .obj _ _ _ => by simp [toP, PyData.eqv]
  | .tup ds => by simp only [toP, PyData.eqv]; exact eqvL_self ds
  | .lst ds => by simp only [toP, PyData.eqv]; exact eqvL_self ds
theorem eqvL_self : ∀ ds : List D, PyData.eqvAll (toPL ds) (toPL ds) = true
  | [] => by simp [toPL, PyData.eqvAll]
  | d :: ds => by simp only [toPL, PyData.eqvAll, Bool.and_eq_true]; exact ⟨eqv_self d, eqvL_self ds⟩
end
theorem eqD_self (d : D) : eqD d d = true := eqv_self d
/-! ### data that can be shown -/
structure Sh (k w : Nat) (d : D) : Prop where
  nr : noref d = true
  lay : (toP d).canLay0 = true
  dep : (toP d).depth ≤ k
  shw : (toP d).showable = true
  wid : wD (toP d) ≤ w
structure ShL (k w : Nat) (ds : List D) : Prop where
  nr : norefL ds = true
  lay : PyData.canLayAll0 (toPL ds) = true
  dep : PyData.depthAll (toPL ds) ≤ k
  shw : PyData.showableAll (toPL ds) = true
  wid : wDL (toPL ds) ≤ w
theorem Sh.mono {k w k' w' : Nat} {d : D} (h : Sh k w d) (hk : k ≤ k') (hw : w ≤ w') : Sh k' w' d := ⟨h.nr, h.lay, Nat.le_trans h.dep hk, h.shw, Nat.le_trans h.wid hw⟩
theorem ShL.nil {k : Nat} : ShL k 0 [] := ⟨rfl, by simp [toPL, PyData.canLayAll0], by simp [toPL, PyData.depthAll], by simp [toPL, PyData.showableAll], by simp [toPL, wDL]⟩
theorem ShL.cons {k w w2 : Nat} {d : D} {ds : List D} (h : Sh k w d) (g : ShL k w2 ds) : ShL k (w + 2 + w2) (d :: ds) := by
  refine ⟨?_, ?_, ?_, ?_, ?_⟩
  · simp only [norefL, h.nr, g.nr, Bool.and_self]
  · simp only [toPL, PyData.canLayAll0, h.lay, g.lay, Bool.and_self]
  · have := h.dep; have := g.dep; simp only [toPL, PyData.depthAll]; omega
  · simp only [toPL, PyData.showableAll, h.shw, g.shw, Bool.and_self]
  · have := h.wid; have := g.wid; simp only [toPL, wDL]; omega
theorem ShL.all {k w : Nat} : ∀ {ds : List D}, (∀ d ∈ ds, Sh k w d) → ShL k (ds.length * (w + 2)) ds
  | [], _ => by simpa using ShL.nil
  | d :: ds, h => by
    have e : (d :: ds).length * (w + 2) = w + 2 + ds.length * (w + 2) := by rw [List.length_cons, Nat.succ_mul, Nat.add_comm]
    rw [e]
    exact ShL.cons (h d List.mem_cons_self) (ShL.all fun x hx => h x (List.mem_cons_of_mem _ hx))
theorem ShL.tup {k w : Nat} {ds : List D} (h : ShL k w ds) : Sh (k + 1) (w + 4) (.tup ds) := by
  refine ⟨by simpa only [noref] using h.nr, by simpa only [toP, PyData.canLay0] using h.lay, ?_, by simpa only [toP, PyData.showable] using h.shw, ?_⟩
  · have := h.dep; simp only [toP, PyData.depth]; omega
  · have := h.wid; simp only [toP, wD]; omega
theorem ShL.lst {k w : Nat} {ds : List D} (h : ShL k w ds) : Sh (k + 1) (w + 4) (.lst ds) := by
  refine ⟨by simpa only [noref] using h.nr, by simpa only [toP, PyData.canLay0] using h.lay, ?_, by simpa only [toP, PyData.showable] using h.shw, ?_⟩
  · have := h.dep; simp only [toP, PyData.depth]; omega
  · have := h.wid; simp only [toP, wD]; omega
theorem Sh.int {n k : Nat} {i : Int} (h : Bd n i) (l : n ≤ 1900) : Sh k (n + 3) (.int i) := by
  have a := h.log
  refine ⟨rfl, by simp [toP, PyData.canLay0], by simp [toP, PyData.depth], ?_, ?_⟩
  · simp only [toP, PyData.showable, decide_eq_true_eq]; omega
  · simp only [toP, wD]; omega
theorem Sh.bl {k : Nat} {b : Bool} : Sh k 5 (.bl b) := ⟨rfl, by simp [toP, PyData.canLay0], by simp [toP, PyData.depth], by simp [toP, PyData.showable], by simp [toP, wD]⟩
theorem Sh.non {k : Nat} : Sh k 5 .non := ⟨rfl, by simp [toP, PyData.canLay0], by simp [toP, PyData.depth], by simp [toP, PyData.showable], by simp [toP, wD]⟩
theorem Sh.q {n k : Nat} {q : Rat} (h : Sz n q) (l : n ≤ 1900) : Sh (k + 1) (2 * n + 14) (DQ q) :=
  (ShL.tup (ShL.cons (Sh.int h.1 l) (ShL.cons (Sh.int h.2 l) .nil))).mono (Nat.le_refl _) (by omega)
theorem okD_str {x : Str} (h : (PyData.str x).canLay0 = true) : okD (.str x) = true := by
  unfold okD SeqAt.shaped
  simp only [noref, toP, PyData.depth, h, Bool.true_and, decide_eq_true_eq]
  omega
theorem Sh.ok {k w : Nat} {d : D} (h : Sh k w d) (l : k ≤ 8) : okD d = true := by
  have := h.dep
  unfold okD SeqAt.shaped
  simp only [h.nr, h.lay, Bool.true_and, decide_eq_true_eq]
  omega
theorem Sh.to {k w : Nat} {d : D} (h : Sh k w d) (l : k ≤ 8) (m : w ≤ 1000000) : Shw d where
  res := fun S => by
    have := h.nr
    cases d <;> first | rfl | cases this
  ok := h.ok l
  sh := h.shw
  sz := Nat.le_trans (shown_len _) (Nat.le_trans h.wid (by rw [sizeLine_eq]; omega))
section
variable {S : Sto} {P : PD} {d : D}
theorem one_self (h : Shw d) : oNe d d S P = P (.bl false) S := by
  have e : (okD (res S d) = true ∧ okD (res S d) = true ∧ P (.bl (!eqD (res S d) (res S d))) S) = P (.bl false) S := by
    rw [h.res S, h.ok, eqD_self]
    simp
  cases d with
  | str x => simp [oNe]
  | _ => exact e
theorem oeq_self (h : Shw d) : oEq d d S P = P (.bl true) S := by
  have e : (okD (res S d) = true ∧ okD (res S d) = true ∧ P (.bl (eqD (res S d) (res S d))) S) = P (.bl true) S := by
    rw [h.res S, h.ok, eqD_self]
    simp
  cases d with
  | str x => simp [oEq]
  | _ => exact e
theorem eqD_bl (a b : Bool) : eqD (.bl a) (.bl b) = decide (a = b) := by cases a <;> cases b <;> rfl
theorem oneB {a b : Bool} : oNe (.bl a) (.bl b) S P = P (.bl (!decide (a = b))) S := by
  show (okD (res S (.bl a)) = true ∧ okD (res S (.bl b)) = true ∧ P (.bl (!eqD (res S (.bl a)) (res S (.bl b)))) S) = _
  rw [res_bl, res_bl, okD_bl, okD_bl, eqD_bl]
  simp
theorem oeqB {a b : Bool} : oEq (.bl a) (.bl b) S P = P (.bl (decide (a = b))) S := by
  show (okD (res S (.bl a)) = true ∧ okD (res S (.bl b)) = true ∧ P (.bl (eqD (res S (.bl a)) (res S (.bl b)))) S) = _
  rw [res_bl, res_bl, okD_bl, okD_bl, eqD_bl]
  simp
theorem oisN {x : D} : oIs x .non S P = P (.bl (isNon x)) S := id rfl
theorem onotN {x : D} : oIsNot x .non S P = P (.bl (!isNon x)) S := id rfl
end
/-! ### points -/
/-- a point -/
def DP (a : Rat × Rat) : D := .tup [DQ a.1, DQ a.2]
def SzP (n : Nat) (a : Rat × Rat) : Prop := Sz n a.1 ∧ Sz n a.2
theorem SzP_mono {m n : Nat} {a : Rat × Rat} (h : SzP m a) (l : m ≤ n) : SzP n a := ⟨h.1.mono l, h.2.mono l⟩
abbrev way (a b : Rat × Rat) : Rat × Rat := (b.1 - a.1, b.2 - a.2)
abbrev crs (u v : Rat × Rat) : Rat := u.1 * v.2 - u.2 * v.1
abbrev alg (u v : Rat × Rat) : Rat := u.1 * v.1 + u.2 * v.2
abbrev dar (a b c : Rat × Rat) : Rat := crs (way a b) (way a c)
abbrev dotq (a b c : Rat × Rat) : Rat := alg (way a b) (way a c)
abbrev mvd (a b : Rat × Rat) (t : Rat) : Rat × Rat := (a.1 + t * (b.1 - a.1), a.2 + t * (b.2 - a.2))
def sgq (q : Rat) : Int := if q.num = 0 then 0 else if 0 < q.num then 1 else -1
theorem iP0 {a : Rat × Rat} {S : Sto} {P : PD} : oIdx (DP a) (.int 0) S P = P (DQ a.1) S := oidx0
theorem iP1 {a : Rat × Rat} {S : Sto} {P : PD} : oIdx (DP a) (.int 1) S P = P (DQ a.2) S := oidx1
theorem sz_way {m n k : Nat} {a b : Rat × Rat} (ha : SzP m a) (hb : SzP n b) (l : n + m + 1 ≤ k) : SzP k (way a b) := ⟨(hb.1.sub ha.1).mono l, (hb.2.sub ha.2).mono l⟩
theorem sz_crs {m n k : Nat} {a b : Rat × Rat} (ha : SzP m a) (hb : SzP n b) (l : m + n + (m + n) + 1 ≤ k) : Sz k (crs a b) := ((ha.1.mul hb.2).sub (ha.2.mul hb.1)).mono l
theorem sz_alg {m n k : Nat} {a b : Rat × Rat} (ha : SzP m a) (hb : SzP n b) (l : m + n + (m + n) + 1 ≤ k) : Sz k (alg a b) := ((ha.1.mul hb.1).add (ha.2.mul hb.2)).mono l
theorem Sh.p {n k : Nat} {p : Rat × Rat} (h : SzP n p) (l : n ≤ 1900) : Sh (k + 2) (4 * n + 40) (DP p) :=
  (ShL.tup (ShL.cons (Sh.q (k := k) h.1 l) (ShL.cons (Sh.q (k := k) h.2 l) .nil))).mono (Nat.le_refl _) (by omega)
/-- a spot -/
def DI (a : Int × Int) : D := .tup [.int a.1, .int a.2]
def BP (n : Nat) (a : Int × Int) : Prop := Bd n a.1 ∧ Bd n a.2
theorem BP.mono {m n : Nat} {a : Int × Int} (h : BP m a) (l : m ≤ n) : BP n a := ⟨h.1.mono l, h.2.mono l⟩
theorem iI0 {a : Int × Int} {S : Sto} {P : PD} : oIdx (DI a) (.int 0) S P = P (.int a.1) S := oidx0
theorem iI1 {a : Int × Int} {S : Sto} {P : PD} : oIdx (DI a) (.int 1) S P = P (.int a.2) S := oidx1
theorem dif1 {n : Nat} {a b : Int × Int} (ha : BP n a) (hb : BP n b) : Bd (n + 1) (a.1 - b.1) ∧ Bd (n + 1) (a.2 - b.2) := ⟨ha.1.sub hb.1, ha.2.sub hb.2⟩
def lcr (a b c : Int × Int) : Int := a.1 * (b.2 - c.2) + b.1 * (c.2 - a.2) + c.1 * (a.2 - b.2)
def sgi (n : Int) : Int := if 0 < n then 1 else if n = 0 then 0 else -1
abbrev pnt (a : Int × Int) (k : Int) : Rat × Rat := (Rat.divInt a.1 k, Rat.divInt a.2 k)
theorem szP_pnt {n : Nat} {a : Int × Int} {k : Int} (ha : BP n a) (hk : Bd n k) (k0 : 0 < k) : SzP n (pnt a k) := ⟨Sz.divInt ha.1 hk (by omega), Sz.divInt ha.2 hk (by omega)⟩
/-! ### signs -/
theorem div_k (x k : Int) : Rat.divInt x k = (x : Rat) / (k : Rat) := by
  exact Rat.divInt_eq_div x k
theorem k_ne {k : Int} (hk : 0 < k) : (k : Rat) ≠ 0 := by
  intro z
  have : k = 0 := by exact_mod_cast z
  omega
theorem sgq_div (n k : Int) (hk : 0 < k) : sgq (Rat.divInt n k) = sgi n := by
  unfold sgq sgi
  rw [Rat.num_divInt]
  have hs : k.sign = 1 := Int.sign_eq_one_of_pos hk
  rw [hs, Int.one_mul]
  have hg : (0 : Int) < ((k.gcd n : Nat) : Int) := Int.ofNat_lt.mpr (Int.gcd_pos_of_ne_zero_left _ (by omega))
  have hd : ((k.gcd n : Nat) : Int) ∣ n := Int.gcd_dvd_right ..
  generalize ((k.gcd n : Nat) : Int) = g at hg hd ⊢
  obtain ⟨m, hm⟩ := hd
  have e : n / g = m := by rw [hm]; exact Int.mul_ediv_cancel_left _ (by omega)
  rw [e]
  by_cases h1 : 0 < m
  · have h2 : 0 < n := by rw [hm]; exact Int.mul_pos hg h1
    rw [if_neg (by omega), if_pos h1, if_pos h2]
  · by_cases h3 : m = 0
    · have h4 : n = 0 := by rw [hm, h3, Int.mul_zero]
      rw [if_pos h3, if_neg (by omega), if_pos h4]
    · have h5 : n < 0 := by rw [hm]; exact Int.mul_neg_of_pos_of_neg hg (by omega)
      rw [if_neg h3, if_neg h1, if_neg (by omega), if_neg (by omega)]
theorem sgq_le {q : Rat} : q.num ≤ 0 ↔ sgq q ≤ 0 := by
  unfold sgq
  split
  · omega
  · split <;> omega
theorem sgq_zero {q : Rat} : q.num = 0 ↔ sgq q = 0 := by
  unfold sgq
  split
  · omega
  · split <;> omega
theorem sgi_neg (n : Int) : sgi (0 - n) = 0 - sgi n := by
  unfold sgi
  by_cases h : 0 < n
  · rw [if_neg (by omega), if_neg (by omega), if_pos h]; rfl
  · by_cases z : n = 0
    · rw [z]; rfl
    · rw [if_pos (by omega), if_neg h, if_neg z]; rfl
theorem sgi_le {n : Int} : sgi n ≤ 0 ↔ n ≤ 0 := by
  unfold sgi
  split
  · omega
  · split <;> omega
theorem sgi_zero {n : Int} : sgi n = 0 ↔ n = 0 := by
  unfold sgi
  split
  · omega
  · split <;> omega
theorem bd_sgi (n : Int) : Bd 2 (sgi n) := by
  unfold sgi Bd
  split
  · decide
  · split <;> decide
theorem bd_sgq (q : Rat) : Bd 2 (sgq q) := by
  unfold sgq Bd
  split
  · decide
  · split <;> decide
theorem q_pos (q : Rat) : 0 < q.num ↔ 0 < q := by
  have h1 := Rat.num_nonneg (q := q)
  have h2 := Rat.num_eq_zero (q := q)
  constructor
  · intro h
    have a : 0 ≤ q := h1.mp (by omega)
    have b : q ≠ 0 := fun z => by rw [h2.mpr z] at h; omega
    exact Std.lt_of_le_of_ne a (Ne.symm b)
  · intro h
    have a : 0 ≤ q.num := h1.mpr (Std.le_of_lt h)
    have b : q.num ≠ 0 := fun z => by rw [h2.mp z] at h; exact absurd h (by grind)
    omega
theorem sgq_of {q : Rat} {n : Int} (h0 : q = 0 ↔ n = 0) (h1 : 0 < q ↔ 0 < n) : sgq q = sgi n := by
  have e0 : q.num = 0 ↔ n = 0 := Rat.num_eq_zero.trans h0
  have e1 : 0 < q.num ↔ 0 < n := (q_pos q).trans h1
  unfold sgq sgi
  by_cases z : n = 0
  · rw [if_pos (e0.mpr z), if_neg (by omega), if_pos z]
  · rw [if_neg (fun y => z (e0.mp y))]
    by_cases p : 0 < n
    · rw [if_pos (e1.mpr p), if_pos p]
    · rw [if_neg (fun y => p (e1.mp y)), if_neg p, if_neg z]
theorem sgq_neg (q : Rat) : sgq (-q) = 0 - sgq q := by
  unfold sgq
  rw [Rat.neg_num]
  by_cases z : q.num = 0
  · rw [if_pos z, if_pos (by omega)]; rfl
  · rw [if_neg z, if_neg (by omega)]
    by_cases p : 0 < q.num
    · rw [if_pos p, if_neg (by omega)]; rfl
    · rw [if_neg p, if_pos (by omega)]; rfl
theorem sq_nn (x : Rat) : 0 ≤ x * x := by
  rcases Rat.le_total (a := 0) (b := x) with h | h
  · exact Rat.mul_nonneg h h
  · have e : x * x = (-x) * (-x) := by grind
    rw [e]
    exact Rat.mul_nonneg (by grind) (by grind)
theorem sq2_zero {x y : Rat} (h : x * x + y * y = 0) : x = 0 ∧ y = 0 := by
  have a := sq_nn x
  have b := sq_nn y
  have c : x * x = 0 := by grind
  have d : y * y = 0 := by grind
  exact ⟨by rcases Rat.mul_eq_zero.mp c with h | h <;> exact h, by rcases Rat.mul_eq_zero.mp d with h | h <;> exact h⟩
theorem dar_pnt (a b c : Int × Int) (k : Int) (hk : 0 < k) : dar (pnt a k) (pnt b k) (pnt c k) = Rat.divInt (lcr a b c) (k * k) := by
  have nz := k_ne hk
  unfold lcr
  simp only [div_k, dar, crs, way, pnt]
  obtain ⟨a1, a2⟩ := a
  obtain ⟨b1, b2⟩ := b
  obtain ⟨c1, c2⟩ := c
  simp only [Rat.intCast_sub, Rat.intCast_add, Rat.intCast_mul]
  generalize (a1 : Rat) = a1
  generalize (a2 : Rat) = a2
  generalize (b1 : Rat) = b1
  generalize (b2 : Rat) = b2
  generalize (c1 : Rat) = c1
  generalize (c2 : Rat) = c2
  generalize (k : Rat) = k at nz
  grind
theorem sgq_dar (a b c : Int × Int) (k : Int) (hk : 0 < k) : sgq (dar (pnt a k) (pnt b k) (pnt c k)) = sgi (lcr a b c) := by
  rw [dar_pnt a b c k hk, sgq_div _ _ (Int.mul_pos hk hk)]
def ldot (a b c : Int × Int) : Int := (b.1 - a.1) * (c.1 - a.1) + (b.2 - a.2) * (c.2 - a.2)
theorem dot_pnt (a b c : Int × Int) (k : Int) (hk : 0 < k) : dotq (pnt a k) (pnt b k) (pnt c k) = Rat.divInt (ldot a b c) (k * k) := by
  have nz := k_ne hk
  unfold ldot
  simp only [div_k, dotq, alg, way, pnt]
  obtain ⟨a1, a2⟩ := a
  obtain ⟨b1, b2⟩ := b
  obtain ⟨c1, c2⟩ := c
  simp only [Rat.intCast_sub, Rat.intCast_add, Rat.intCast_mul]
  generalize (a1 : Rat) = a1
  generalize (a2 : Rat) = a2
  generalize (b1 : Rat) = b1
  generalize (b2 : Rat) = b2
  generalize (c1 : Rat) = c1
  generalize (c2 : Rat) = c2
  generalize (k : Rat) = k at nz
  grind
/-! ### lists that are drawn -/
theorem lc_sk {G : WG} {t : WB} {w : WE} {vs : List Nat} {env : PL.Env} {p : Addr} {k : Sto → Prop} (I : List D → Sto → Prop) : ∀ (ds acc : List D) (S : Sto), S p = some (.lst acc) → I acc S → acc.length + ds.length ≤ sizeLine →
    (∀ d ∈ ds, ∀ (acc : List D) (S : Sto), S p = some (.lst acc) → I acc S → ∀ R : Sto → Prop, (∀ S1 y, S1 p = some (.lst acc) → I (acc ++ [y]) (sput S1 p (.lst (acc ++ [y]))) → lcPut p y R S1) → G d (wipeD env vs) S (fun e1 S1 => t e1 S1 (fun b S2 => if b = true then w e1 S2 (fun y S3 => lcPut p y R S3) (fun _ _ => False) else R S2) (fun _ _ => False)) (fun _ _ => False)) →
    (∀ (out : List D) (S : Sto), S p = some (.lst out) → I out S → out.length = acc.length + ds.length → k S) → lcD G t w vs env p k ds S
  | [], acc, S, hp, hI, _, _, h => h acc S hp hI (by rw [List.length_nil, Nat.add_zero])
  | d :: ds, acc, S, hp, hI, hl, hs, h => by
    rw [List.length_cons] at hl
    refine hs d List.mem_cons_self acc S hp hI _ fun S1 y h1 hI1 => ?_
    unfold lcPut
    simp only [h1]
    refine ⟨by omega, lc_sk I ds (acc ++ [y]) _ sput_at hI1 (by rw [List.length_append, List.length_singleton]; omega) (fun d' hd => hs d' (List.mem_cons_of_mem _ hd)) fun out S ho hI2 e => h out S ho hI2 (by rw [e, List.length_append, List.length_singleton, List.length_cons]; omega)⟩
/-- off the deal and the list at l nothing has changed -/
def Fr3 (p q l : Addr) (S S' : Sto) : Prop := ∀ x, x ≠ p → x ≠ q → x ≠ l → S' x = S x
/-- things of a kind drawn into a new list -/
theorem drawn {G : WG} {w : WE} {vs : List Nat} {env : PL.Env} {S : Sto} {k : Addr → Sto → Prop} {p q : Addr} {m : Nat} (N : D → Prop) (ds : List D) (hds : ds.length = m) (hd : Deal S p q) (hm : m ≤ 1000)
    (hi : ∀ d ∈ ds, ∀ (S1 : Sto), Deal S1 p q → ∀ R : D → Sto → Prop, (∀ y S2, N y → Deal S2 p q → Fr p q S1 S2 → R y S2) → G d (wipeD env vs) S1 (fun e1 S2 => w e1 S2 R (fun _ _ => False)) (fun _ _ => False))
    (h : ∀ l S' es, S l = none → S' l = some (.lst es) → es.length = m → (∀ y ∈ es, N y) → Deal S' p q → Fr3 p q l S S' → k l S') : ∀ l, S l = none → lcD G tYesD w vs env l (k l) ds (sput S l (.lst [])) := fun l hl => by
  have nlp := hd.neP hl
  have nlq := hd.neQ hl
  refine lc_sk (fun acc S' => (∀ y ∈ acc, N y) ∧ Deal S' p q ∧ Fr3 p q l S S') _ [] _ sput_at ⟨(fun y hy => by cases hy), hd.put nlp nlq, fun x _ _ c => sput_off c⟩ (by rw [hds]; exact le_line (by simpa using hm)) (fun d hdm acc S1 hp ⟨ha, hd1, hf⟩ R hR => ?_) fun out S' ho ⟨ha, hd1, hf⟩ e => h l S' out hl ho (by rw [e, hds]; simp) ha hd1 hf
  refine hi d hdm S1 hd1 (fun y S3 => lcPut l y R S3) fun y S2 hy hd2 fr => hR S2 y (by rw [fr l nlp nlq]; exact hp) ⟨fun z hz => ?_, hd2.put nlp nlq, fun x a b c => ?_⟩
  · rcases List.mem_append.mp hz with z | z
    · exact ha _ z
    · rw [List.mem_singleton.mp z]; exact hy
  · rw [sput_off c, fr x a b]; exact hf x a b c
/-- a spot not far off -/
def Nr (n : Nat) (d : D) : Prop := ∃ a : Int × Int, d = DI a ∧ a.1.natAbs ≤ n ∧ a.2.natAbs ≤ n
theorem Nr.mono {m n : Nat} {d : D} (h : Nr m d) (l : m ≤ n) : Nr n d := let ⟨a, e, x, y⟩ := h; ⟨a, e, Nat.le_trans x l, Nat.le_trans y l⟩
theorem four_of {n : Nat} {es : List D} (hl : es.length = 4) (h : ∀ y ∈ es, Nr n y) : ∃ a b c d : Int × Int, es = [DI a, DI b, DI c, DI d] ∧ (a.1.natAbs ≤ n ∧ a.2.natAbs ≤ n) ∧ (b.1.natAbs ≤ n ∧ b.2.natAbs ≤ n) ∧ (c.1.natAbs ≤ n ∧ c.2.natAbs ≤ n) ∧ (d.1.natAbs ≤ n ∧ d.2.natAbs ≤ n) := by
  match es, hl with
  | [w, x, y, z], _ =>
    obtain ⟨a, rfl, ha⟩ := h w (by simp)
    obtain ⟨b, rfl, hb⟩ := h x (by simp)
    obtain ⟨c, rfl, hc⟩ := h y (by simp)
    obtain ⟨d, rfl, hd⟩ := h z (by simp)
    exact ⟨a, b, c, d, rfl, ha, hb, hc, hd⟩
theorem bp {n : Nat} {a : Int × Int} (h : a.1.natAbs ≤ n ∧ a.2.natAbs ≤ n) (l : n ≤ 16000) : BP 14 a := by
  have e : (2 : Nat) ^ 14 = 16384 := by decide
  unfold BP Bd
  omega
theorem xlcN {wi : WI} {G : WG} {t : WB} {w : WE} {vs : List Nat} {r : PL.Env} {S : Sto} {P : PD} {X : PX} : wLcN wi G t w vs r S P X = wi r S (fun ds S1 => ∀ p, S1 p = none → lcD G t w vs r p (lcEndN P p) ds (sput S1 p (.lst []))) X := id rfl
theorem xpre0 {i : Nat} {u : WS} {E : EndD} {Y : XS} {r : PL.Env} {S : Sto} {es : List D} (h : r[i]? = some (some (.lst es))) (k : u E Y r S) : sPre i u E Y r S := by
  unfold sPre
  simp only [h]
  exact k
theorem xpreR {i : Nat} {u : WS} {E : EndD} {Y : XS} {r : PL.Env} {S : Sto} {l : Addr} {es : List D} (h : r[i]? = some (some (.ref l))) (hl : S l = some (.lst es)) (k : u E Y (r.set i (some (.lst es))) (sdel S l)) : sPre i u E Y r S := by
  unfold sPre
  simp only [h, hl]
  exact k
theorem at_idx {l : Addr} {es : List D} {S : Sto} {P : PD} {k : Nat} {d : D} (hl : S l = some (.lst es)) (h : es[k]? = some d) : oIdx (.ref l) (.int (k : Int)) S P = P d S := by
  unfold oIdx seqOf
  simp only [hl, at_nat, h]
theorem lx {es : List D} {S : Sto} {P : PD} {k : Nat} {d : D} (h : es[k]? = some d) : oIdx (.lst es) (.int (k : Int)) S P = P d S := by
  unfold oIdx seqOf
  simp only [at_nat, h]
theorem setI {l : Addr} {es : List D} {S : Sto} {R : Sto → Prop} {k : Nat} {d : D} (hl : S l = some (.lst es)) (h : k < es.length) : oSet (.ref l) (.int (k : Int)) d S R = R (sput S l (.lst (es.set k d))) := by
  unfold oSet
  have e : ixN es.length (k : Int) = some k := by
    unfold ixN
    rw [if_pos (by omega), if_pos (by omega)]
    rfl
  simp only [hl, e]
/-- any place of a list, also from behind -/
theorem ix_any {n : Nat} {i : Int} (h0 : -(n : Int) ≤ i) (h1 : i < n) : ∃ j, ixN n i = some j ∧ j < n := by
  unfold ixN
  by_cases hi : 0 ≤ i
  · rw [if_pos hi, if_pos h1]; exact ⟨_, rfl, by omega⟩
  · rw [if_neg hi, if_pos (by omega)]; exact ⟨_, rfl, by omega⟩
theorem ref_any {l : Addr} {es : List D} {i : Int} {S : Sto} {P : PD} (hl : S l = some (.lst es)) (h0 : -(es.length : Int) ≤ i) (h1 : i < es.length) (h : ∀ d ∈ es, P d S) : oIdx (.ref l) (.int i) S P := by
  obtain ⟨j, ej, hj⟩ := ix_any h0 h1
  unfold oIdx seqOf
  simp only [hl]
  unfold atI
  simp only [ej, Option.bind_some, List.getElem?_eq_getElem hj]
  exact h _ (List.getElem_mem hj)
theorem set_any {l : Addr} {es : List D} {i : Int} {d : D} {S : Sto} {R : Sto → Prop} (hl : S l = some (.lst es)) (h0 : -(es.length : Int) ≤ i) (h1 : i < es.length) (h : ∀ j, R (sput S l (.lst (es.set j d)))) : oSet (.ref l) (.int i) d S R := by
  obtain ⟨j, ej, hj⟩ := ix_any h0 h1
  unfold oSet
  simp only [hl, ej]
  exact h j
theorem fr_del {p q l : Addr} {S S' : Sto} (h : Fr3 p q l S S') (hl : S l = none) : Fr p q S (sdel S' l) := fun x a b => by
  unfold sdel
  by_cases z : x = l
  · rw [if_pos z, z, hl]
  · rw [if_neg z]; exact h x a b z
theorem deal_del {p q l : Addr} {S : Sto} (h : Deal S p q) (hp : l ≠ p) (hq : l ≠ q) : Deal (sdel S l) p q := h.of (by unfold sdel; rw [if_neg (Ne.symm hp)]) (by unfold sdel; rw [if_neg (Ne.symm hq)])
theorem lcEndN_i {P : PD} {l : Addr} {S : Sto} {es : List D} (h : S l = some (.lst es)) (k : P (.ref l) S) : lcEndN P l S := by
  unfold lcEndN
  simp only [h]
  exact k
theorem sdel_ne {S : Sto} {x l : Addr} (h : x ≠ l) : sdel S l x = S x := by unfold sdel; rw [if_neg h]
theorem sdel_at {S : Sto} {l : Addr} : sdel S l l = none := by unfold sdel; rw [if_pos rfl]
theorem lcEnd_i {P : PD} {l : Addr} {S : Sto} {es : List D} (h : S l = some (.lst es)) (k : P (.lst es) (sdel S l)) : lcEnd P l S := by
  unfold lcEnd
  simp only [h]
  exact k
theorem xchain {o o' : O2} {u v w : WE} {r : PL.Env} {S : Sto} {P : PD} {X : PX} : wChain o o' u v w r S P X = u r S (fun x S1 => v r S1 (fun y S2 => o x y S2 (fun z S3 => match z with
  | .bl k => if k = true then w r S3 (fun y2 S4 => o' y y2 S4 P) X else P (.bl false) S3
  | _ => False)) X) X := id rfl
theorem ominI {i j : Int} {S : Sto} {P : PD} : oMin [.int i, .int j] S P = P (.int (min i j)) S := id rfl
theorem omaxI {i j : Int} {S : Sto} {P : PD} : oMax [.int i, .int j] S P = P (.int (max i j)) S := id rfl
theorem omin3 {i j k : Int} {S : Sto} {P : PD} : oMin [.int i, .int j, .int k] S P = P (.int (min (min i j) k)) S := id rfl
theorem lit2 : D.tup [.int 2, .int 1] = DQ 2 := rfl
theorem sz2 : Sz 2 2 := ⟨by unfold Bd; decide, by unfold Bd; decide⟩
theorem g41 {n0 n1 n2 n3 : Nat} {a b c d : D} {r : PL.Env} {S : Sto} {R : PL.Env → Sto → Prop} {X : PX} : gTupD 4 (gConsD (gVar n0) (gConsD (gVar n1) (gConsD (gVar n2) (gConsD (gVar n3) gNilD)))) (.tup [a, b, c, d]) r S R X = R ((((r.set n0 (some a)).set n1 (some b)).set n2 (some c)).set n3 (some d)) S :=
  propext ⟨fun h => h.2.2, fun h => ⟨rfl, rfl, h⟩⟩
theorem g4L {n0 n1 n2 n3 : Nat} {a b c d : D} {r : PL.Env} {S : Sto} {R : PL.Env → Sto → Prop} {X : PX} : gTupD 4 (gConsD (gVar n0) (gConsD (gVar n1) (gConsD (gVar n2) (gConsD (gVar n3) gNilD)))) (.lst [a, b, c, d]) r S R X = R ((((r.set n0 (some a)).set n1 (some b)).set n2 (some c)).set n3 (some d)) S :=
  propext ⟨fun h => h.2.2, fun h => ⟨rfl, rfl, h⟩⟩
end PL
namespace PL
open PySem PySem.Spec L2
theorem xisT {t : Bt} {u : WE} {r : PL.Env} {S : Sto} {P : PD} {X : PX} : wIsT t u r S P X = u r S (fun d S1 => okT S1 d ∧ P (.bl (isTy t d)) S1) X := id rfl
theorem xnotV {u : WE} {r : PL.Env} {S : Sto} {P : PD} {X : PX} : wNotV u r S P X = u r S (fun d S1 => match d with
  | .bl k => P (.bl (!k)) S1
  | _ => False) X := id rfl
theorem okT_nr {S : Sto} {d : D} (h : noref d = true) : okT S d := by cases d <;> first | trivial | cases h
theorem len_t {ds : List D} {S : Sto} {P : PD} : oLen [.tup ds] S P = P (.int ds.length) S := id rfl
theorem len_l {ds : List D} {S : Sto} {P : PD} : oLen [.lst ds] S P = P (.int ds.length) S := id rfl
theorem i0t {x : D} {ds : List D} {S : Sto} {P : PD} : oIdx (.tup (x :: ds)) (.int 0) S P = P x S := oidx0
theorem i1t {x y : D} {ds : List D} {S : Sto} {P : PD} : oIdx (.tup (x :: y :: ds)) (.int 1) S P = P y S := oidx1
theorem i2t {x y z : D} {ds : List D} {S : Sto} {P : PD} : oIdx (.tup (x :: y :: z :: ds)) (.int 2) S P = P z S := by
  show (match atI (x :: y :: z :: ds) ((2 : Nat) : Int) with
    | some d => P d S
    | none => False) = _
  rw [at_nat]; rfl
theorem i0l {x : D} {ds : List D} {S : Sto} {P : PD} : oIdx (.lst (x :: ds)) (.int 0) S P = P x S := lx (k := 0) rfl
theorem i1l {x y : D} {ds : List D} {S : Sto} {P : PD} : oIdx (.lst (x :: y :: ds)) (.int 1) S P = P y S := lx (k := 1) rfl
theorem i2l {x y z : D} {ds : List D} {S : Sto} {P : PD} : oIdx (.lst (x :: y :: z :: ds)) (.int 2) S P = P z S := lx (k := 2) rfl
theorem i3l {x y z w : D} {ds : List D} {S : Sto} {P : PD} : oIdx (.lst (x :: y :: z :: w :: ds)) (.int 3) S P = P w S := lx (k := 3) rfl
theorem wD_mem {x : D} : ∀ {ds : List D}, x ∈ ds → wD (toP x) ≤ wDL (toPL ds) ∧ (toP x).depth ≤ PyData.depthAll (toPL ds)
  | d :: ds, h => by
    simp only [toPL, wDL, PyData.depthAll]
    rcases List.mem_cons.mp h with rfl | h
    · omega
    · have := wD_mem h
      omega
theorem nr_mem {x : D} : ∀ {ds : List D}, x ∈ ds → norefL ds = true → noref x = true
  | d :: ds, h, n => by
    simp only [norefL, Bool.and_eq_true] at n
    rcases List.mem_cons.mp h with rfl | h
    · exact n.1
    · exact nr_mem h n.2
theorem lay_mem {x : D} : ∀ {ds : List D}, x ∈ ds → PyData.canLayAll0 (toPL ds) = true → (toP x).canLay0 = true
  | d :: ds, h, n => by
    simp only [toPL, PyData.canLayAll0, Bool.and_eq_true] at n
    rcases List.mem_cons.mp h with rfl | h
    · exact n.1
    · exact lay_mem h n.2
theorem shw_mem {x : D} : ∀ {ds : List D}, x ∈ ds → PyData.showableAll (toPL ds) = true → (toP x).showable = true
  | d :: ds, h, n => by
    simp only [toPL, PyData.showableAll, Bool.and_eq_true] at n
    rcases List.mem_cons.mp h with rfl | h
    · exact n.1
    · exact shw_mem h n.2
theorem Sh.mem {k w : Nat} {x : D} {ds : List D} (h : Sh k w (.tup ds)) (hx : x ∈ ds) : Sh k w x := by
  obtain ⟨h1, h2, h3, h4, h5⟩ := h
  simp only [noref] at h1
  simp only [toP, PyData.canLay0] at h2
  simp only [toP, PyData.depth] at h3
  simp only [toP, PyData.showable] at h4
  simp only [toP, wD] at h5
  obtain ⟨a, b⟩ := wD_mem hx
  exact ⟨nr_mem hx h1, lay_mem hx h2, by omega, shw_mem hx h4, by omega⟩
theorem Sh.bd {k w : Nat} {i : Int} (h : Sh k w (.int i)) : Bd w i := by
  have h5 := h.wid
  simp only [toP, wD] at h5
  unfold Bd
  have : i.natAbs < 2 ^ (i.natAbs.log2 + 1) := Nat.lt_log2_self
  exact Nat.lt_of_lt_of_le this (Nat.pow_le_pow_right (by decide) (by omega))
theorem sh_str {k : Nat} {x : Str} (h1 : (PyData.str x).canLay0 = true) (h2 : (PyData.str x).showable = true) (h3 : (reprText x).length ≤ 10) : Sh k 10 (.str x) := ⟨rfl, h1, by simp [toP, PyData.depth], h2, by simpa [toP, wD] using h3⟩
theorem shw_q {m : Nat} {q : Rat} (h : Sz m q) (l : m ≤ 1900) : Shw (DQ q) := (Sh.q (k := 0) h l).to (by decide) (by omega)
theorem shw_p {m : Nat} {p : Rat × Rat} (h : SzP m p) (l : m ≤ 1900) : Shw (DP p) := (Sh.p (k := 0) h l).to (by decide) (by omega)
theorem shw_i {m : Nat} {i : Int} (h : Bd m i) (l : m ≤ 1900) : Shw (.int i) := (Sh.int (k := 0) h l).to (by decide) (by omega)
theorem shw_b (b : Bool) : Shw (.bl b) := (Sh.bl (k := 0)).to (by decide) (by decide)
theorem g2x {n1 n2 n3 n4 : Nat} {a b c d : D} {r : PL.Env} {S : Sto} {R : PL.Env → Sto → Prop} {X : PX} : gTupD 2 (gConsD (gTupD 2 (gConsD (gVar n1) (gConsD (gVar n2) gNilD))) (gConsD (gTupD 2 (gConsD (gVar n3) (gConsD (gVar n4) gNilD))) gNilD)) (.tup [.tup [a, b], .tup [c, d]]) r S R X = R ((((r.set n1 (some a)).set n2 (some b)).set n3 (some c)).set n4 (some d)) S :=
  propext ⟨fun h => h.2.2.2.2.2.2, fun h => ⟨rfl, rfl, rfl, rfl, rfl, rfl, h⟩⟩
theorem g2p {n0 n1 : Nat} {a b : D} {r : PL.Env} {S : Sto} {R : PL.Env → Sto → Prop} {X : PX} : gTupD 2 (gConsD (gVar n0) (gConsD (gVar n1) gNilD)) (.tup [a, b]) r S R X = R ((r.set n0 (some a)).set n1 (some b)) S :=
  propext ⟨fun h => h.2.2, fun h => ⟨rfl, rfl, h⟩⟩
theorem g3p {n0 n1 n2 : Nat} {a b c : D} {r : PL.Env} {S : Sto} {R : PL.Env → Sto → Prop} {X : PX} : gTupD 3 (gConsD (gVar n0) (gConsD (gVar n1) (gConsD (gVar n2) gNilD))) (.tup [a, b, c]) r S R X = R (((r.set n0 (some a)).set n1 (some b)).set n2 (some c)) S :=
  propext ⟨fun h => h.2.2, fun h => ⟨rfl, rfl, h⟩⟩
theorem g3l {n0 n1 n2 : Nat} {a b c : D} {r : PL.Env} {S : Sto} {R : PL.Env → Sto → Prop} {X : PX} : gTupD 3 (gConsD (gVar n0) (gConsD (gVar n1) (gConsD (gVar n2) gNilD))) (.lst [a, b, c]) r S R X = R (((r.set n0 (some a)).set n1 (some b)).set n2 (some c)) S :=
  propext ⟨fun h => h.2.2, fun h => ⟨rfl, rfl, h⟩⟩
/-! areas of pairs -/
theorem lcr_rev (a b c : Int × Int) : lcr c b a = 0 - lcr a b c := by unfold lcr; grind
theorem lcr_rot (a b c : Int × Int) : lcr b c a = lcr a b c := by unfold lcr; grind
theorem lcr_swap (a b c : Int × Int) : lcr b a c = 0 - lcr a b c := by unfold lcr; grind
theorem lcr_sum (a b c d : Int × Int) : lcr a b d + (lcr b c d + lcr c a d) = lcr a b c := by unfold lcr; grind
theorem sz_dar {m n o k : Nat} {p q r : Rat × Rat} (hp : SzP m p) (hq : SzP n q) (hr : SzP o r) (l : n + m + 1 + (o + m + 1) + (n + m + 1 + (o + m + 1)) + 1 ≤ k) : Sz k (dar p q r) := sz_crs (sz_way (k := n + m + 1) hp hq (Nat.le_refl _)) (sz_way (k := o + m + 1) hp hr (Nat.le_refl _)) l
theorem sz_dot {m n o k : Nat} {p q r : Rat × Rat} (hp : SzP m p) (hq : SzP n q) (hr : SzP o r) (l : n + m + 1 + (o + m + 1) + (n + m + 1 + (o + m + 1)) + 1 ≤ k) : Sz k (dotq p q r) := sz_alg (sz_way (k := n + m + 1) hp hq (Nat.le_refl _)) (sz_way (k := o + m + 1) hp hr (Nat.le_refl _)) l
/-! quotients of integers -/
theorem cast_ne {m : Int} (h : m ≠ 0) : (m : Rat) ≠ 0 := fun z => h (by exact_mod_cast z)
theorem dv2 (A k t : Rat) (tz : t ≠ 0) (nz : k ≠ 0) : A / (k * t) = A / t / k := by grind
theorem mv1 (a b o m k : Rat) (hm : m ≠ 0) (hk : k ≠ 0) : a / k + o / m * (b / k - a / k) = (a * m + o * (b - a)) / m / k := by grind
abbrev duP (a b : Int × Int) (o m k : Int) : Rat × Rat := (Rat.divInt (a.1 * m + o * (b.1 - a.1)) (k * m), Rat.divInt (a.2 * m + o * (b.2 - a.2)) (k * m))
theorem mv_pnt (a b : Int × Int) (o m k : Int) (hk : 0 < k) (hm : m ≠ 0) : mvd (pnt a k) (pnt b k) ((o : Rat) / (m : Rat)) = duP a b o m k := by
  have nz := k_ne hk
  have mz := cast_ne hm
  unfold mvd duP
  simp only [div_k, pnt, Rat.intCast_add, Rat.intCast_sub, Rat.intCast_mul]
  rw [mv1 _ _ _ _ _ mz nz, mv1 _ _ _ _ _ mz nz, dv2 _ _ _ mz nz, dv2 _ _ _ mz nz]
theorem qq (o m k : Rat) (hm : m ≠ 0) (hk : k ≠ 0) : o / (k * k) / (m / (k * k)) = o / m := by grind
/-- a quotient of two numbers over one square -/
theorem div_div (o m k : Int) (hk : 0 < k) (hm : m ≠ 0) : Rat.divInt o (k * k) / Rat.divInt m (k * k) = Rat.divInt o m := by
  simp only [div_k, Rat.intCast_mul]
  exact qq _ _ _ (cast_ne hm) (k_ne hk)
theorem sgi_cases (n : Int) : (0 < n ∧ sgi n = 1) ∨ (n = 0 ∧ sgi n = 0) ∨ (n < 0 ∧ sgi n = -1) := by
  unfold sgi
  by_cases h1 : 0 < n
  · exact .inl ⟨h1, if_pos h1⟩
  · by_cases h2 : n = 0
    · exact .inr (.inl ⟨h2, by rw [if_neg h1, if_pos h2]⟩)
    · exact .inr (.inr ⟨by omega, by rw [if_neg h1, if_neg h2]⟩)
/-- what a tail of a def that draws into one list knows of it -/
structure Tl (p q l : Addr) (n : Nat) (S0 S : Sto) (es : List D) : Prop where
  deal : Deal S p q
  fr : Fr3 p q l S0 S
  free : S0 l = none
  nlp : l ≠ p
  nlq : l ≠ q
  at_l : S l = some (.lst es)
  near : ∀ y ∈ es, Nr n y
section
variable {p q l : Addr} {S0 S : Sto} {es : List D} {n : Nat} {P : PD}
theorem fr_none {x : Addr} (hd : Deal S p q) (hf : Fr p q S0 S) (h : S x = none) : S0 x = none := by
  rw [← hf x (hd.neP h) (hd.neQ h)]; exact h
theorem Tl.mono {m : Nat} (T : Tl p q l n S0 S es) (h : n ≤ m) : Tl p q l m S0 S es := ⟨T.deal, T.fr, T.free, T.nlp, T.nlq, T.at_l, fun y hy => (T.near y hy).mono h⟩
theorem Tl.step {S' : Sto} (T : Tl p q l n S0 S es) (hd : Deal S' p q) (f : Fr p q S S') : Tl p q l n S0 S' es :=
  ⟨hd, fun x h1 h2 h3 => (f x h1 h2).trans (T.fr x h1 h2 h3), T.free, T.nlp, T.nlq, (f l T.nlp T.nlq).trans T.at_l, T.near⟩
theorem Tl.put {es' : List D} {m : Nat} (T : Tl p q l n S0 S es) (hn : ∀ y ∈ es', Nr m y) : Tl p q l m S0 (sput S l (.lst es')) es' :=
  ⟨T.deal.put T.nlp T.nlq, fun x h1 h2 h3 => by rw [sput_off h3]; exact T.fr x h1 h2 h3, T.free, T.nlp, T.nlq, sput_at, hn⟩
theorem Tl.gone (T : Tl p q l n S0 S es) : Deal (sdel S l) p q ∧ Fr p q S0 (sdel S l) := ⟨deal_del T.deal T.nlp T.nlq, fr_del T.fr T.free⟩
theorem fin_tl {m : Nat} {es' : List D} {S' : Sto} (dl : Deal S p q) (fr0 : Fr p q S0 S) {l2 : Addr} (hl2 : S l2 = none) (hat : S' l2 = some (.lst es')) (hn : ∀ y ∈ es', Nr m y) (hd : Deal S' p q) (f3 : Fr3 p q l2 S S') : Tl p q l2 m S0 S' es' :=
  ⟨hd, fun x h1 h2 h3 => (f3 x h1 h2 h3).trans (fr0 x h1 h2), fr_none dl fr0 hl2, dl.neP hl2, dl.neQ hl2, hat, hn⟩
end
theorem xzip {u : WA} {r : PL.Env} {S : Sto} {Q : List D → Sto → Prop} {X : PX} : wZip u r S Q X = u r S (fun ds S' => match ds with
  | [x, y] => match fixOf x, fixOf y with
    | some as, some bs => Q (List.zipWith (fun x y => .tup [x, y]) as bs) S'
    | _, _ => False
  | _ => False) X := id rfl
theorem xrevI {u : WE} {r : PL.Env} {S : Sto} {Q : List D → Sto → Prop} {X : PX} : wRevI u r S Q X = u r S (fun d S' => match fixOf d with
  | some ds => Q ds.reverse S'
  | none => False) X := id rfl
end PL
namespace PL
open PySem PySem.Spec L2
/-! ### common lemmas, made for k04 and k09 -/
theorem xorV {u v : WE} {r : PL.Env} {S : Sto} {P : PD} {X : PX} : wOrV u v r S P X = u r S (fun d S1 => match d with
  | .bl k => if k = true then P (.bl true) S1 else v r S1 P X
  | _ => False) X := id rfl
theorem xrngA {u : WA} {r : PL.Env} {S : Sto} {Q : List D → Sto → Prop} {X : PX} : wRange1 u r S Q X = u r S (fun ds S' => match ds with
  | [.int k] => (-(2 ^ 62) ≤ k ∧ k < 2 ^ 62) ∧ Q (intsD 0 k.toNat) S'
  | _ => False) X := id rfl
theorem xrng2 {u : WA} {r : PL.Env} {S : Sto} {Q : List D → Sto → Prop} {X : PX} : wRange2 u r S Q X = u r S (fun ds S' => match ds with
  | [.int i, .int j] => (-(2 ^ 62) ≤ i ∧ i < 2 ^ 62 ∧ -(2 ^ 62) ≤ j ∧ j < 2 ^ 62) ∧ Q (intsD i (j - i).toNat) S'
  | _ => False) X := id rfl
theorem xenum {u : WA} {r : PL.Env} {S : Sto} {Q : List D → Sto → Prop} {X : PX} : wEnum u r S Q X = u r S (fun ds S' => match ds with
  | [d] => match fixOf d with
    | some ds => Q (enumD ds) S'
    | none => False
  | _ => False) X := id rfl
theorem ints_cons (lo : Int) (n : Nat) : intsD lo (n + 1) = .int lo :: intsD (lo + 1) n := by
  unfold intsD
  rw [List.range_succ_eq_map, List.map_cons, List.map_map]
  refine congr (congrArg _ (by simp)) (List.map_congr_left fun i _ => ?_)
  show D.int (lo + ((i + 1 : Nat) : Int)) = D.int (lo + 1 + i)
  congr 1
  omega
theorem bd_s {n : Int} {k : Nat} (h : n.natAbs ≤ 1000000) (l : 20 ≤ k) : Bd k n := Bd.mono (m := 20) (by unfold Bd; have : (2 : Nat) ^ 20 = 1048576 := (by decide); omega) l
theorem lx_tup {es : List D} {S : Sto} {P : PD} {k : Nat} {d : D} (h : es[k]? = some d) : oIdx (.tup es) (.int (k : Int)) S P = P d S := by
  unfold oIdx seqOf
  simp only [at_nat, h]
theorem at_neg {α : Type} (xs : List α) (k : Nat) (h0 : 0 < k) (h : k ≤ xs.length) : atI xs (-(k : Int)) = xs[xs.length - k]? := by
  unfold atI ixN
  rw [if_neg (by omega), if_pos (by omega)]
  have e : (-(k : Int) + (xs.length : Int)).toNat = xs.length - k := by omega
  simp only [e, Option.bind_some]
theorem len_tup {xs : List D} {S : Sto} {P : PD} : oLen [.tup xs] S P = P (.int (xs.length : Nat)) S := id rfl
theorem len_lst {xs : List D} {S : Sto} {P : PD} : oLen [.lst xs] S P = P (.int (xs.length : Nat)) S := id rfl
theorem tup_lst {ds : List D} {S : Sto} {P : PD} : oTuple [.lst ds] S P = P (.tup ds) S := id rfl
theorem add_lst {as bs : List D} {S : Sto} {P : PD} : oAdd (.lst as) (.lst bs) S P = (as.length + bs.length ≤ sizeLine ∧ P (.lst (as ++ bs)) S) := id rfl
theorem add_tup {as bs : List D} {S : Sto} {P : PD} : oAdd (.tup as) (.tup bs) S P = (as.length + bs.length ≤ sizeLine ∧ P (.tup (as ++ bs)) S) := id rfl
theorem oisB {a b : Bool} {S : Sto} {P : PD} : oIs (.bl a) (.bl b) S P = P (.bl (decide (a = b))) S := id rfl
theorem oisnB {a b : Bool} {S : Sto} {P : PD} : oIsNot (.bl a) (.bl b) S P = P (.bl (!decide (a = b))) S := id rfl
theorem cut_to (ds : List D) (k : Nat) : cutD ds none (some (k : Int)) = ds.take k := by
  unfold cutD
  have e1 : HT.sIx ds.length 0 none = 0 := id rfl
  rw [e1, HT.sIx_nat, List.drop_zero, Nat.sub_zero]
  by_cases h : k ≤ ds.length
  · congr 1; omega
  · rw [List.take_of_length_le (by omega), List.take_of_length_le (by omega)]
theorem cut_from (ds : List D) (k : Nat) : cutD ds (some (k : Int)) none = ds.drop k := by
  unfold cutD
  have e1 : HT.sIx ds.length ds.length none = ds.length := id rfl
  rw [e1, HT.sIx_nat]
  by_cases h : k ≤ ds.length
  · rw [Nat.min_eq_left h, List.take_of_length_le (by rw [List.length_drop]; omega)]
  · rw [Nat.min_eq_right (by omega), List.drop_of_length_le (by omega), List.drop_of_length_le (by omega), List.take_nil]
theorem cut_mid (ds : List D) (i j : Nat) (h : i ≤ j) (hj : j ≤ ds.length) : cutD ds (some (i : Int)) (some (j : Int)) = (ds.drop i).take (j - i) := by
  unfold cutD
  rw [HT.sIx_nat, HT.sIx_nat, Nat.min_eq_left (by omega), Nat.min_eq_left (by omega)]
theorem slT {u v : WE} {r : PL.Env} {S : Sto} {P : PD} {X : PX} : wSlice u none (some v) r S P X = u r S (fun x S1 => v r S1 (fun d S' => match d with
  | .int i => oSlice x none (some i) S' P
  | _ => False) X) X := id rfl
theorem slF {u v : WE} {r : PL.Env} {S : Sto} {P : PD} {X : PX} : wSlice u (some v) none r S P X = u r S (fun x S1 => v r S1 (fun d S' => match d with
  | .int i => oSlice x (some i) none S' P
  | _ => False) X) X := id rfl
theorem slM {u v w : WE} {r : PL.Env} {S : Sto} {P : PD} {X : PX} : wSlice u (some v) (some w) r S P X = u r S (fun x S1 => v r S1 (fun d S' => match d with
  | .int i => w r S' (fun d S' => match d with
    | .int j => oSlice x (some i) (some j) S' P
    | _ => False) X
  | _ => False) X) X := id rfl
theorem osl_to {ds : List D} {k : Nat} {S : Sto} {P : PD} : oSlice (.tup ds) none (some (k : Int)) S P = P (.tup (ds.take k)) S := by
  show P (.tup (cutD ds none (some (k : Int)))) S = _
  rw [cut_to]
theorem osl_from {ds : List D} {k : Nat} {S : Sto} {P : PD} : oSlice (.tup ds) (some (k : Int)) none S P = P (.tup (ds.drop k)) S := by
  show P (.tup (cutD ds (some (k : Int)) none)) S = _
  rw [cut_from]
theorem osl_mid {ds : List D} {i j : Nat} {S : Sto} {P : PD} (h : i ≤ j) (hj : j ≤ ds.length) : oSlice (.tup ds) (some (i : Int)) (some (j : Int)) S P = P (.tup ((ds.drop i).take (j - i))) S := by
  show P (.tup (cutD ds (some (i : Int)) (some (j : Int)))) S = _
  rw [cut_mid _ _ _ h hj]
theorem xrevT {u : WE} {r : PL.Env} {S : Sto} {P : PD} {X : PX} {ds : List D} (h : ∀ P : PD, u r S P X = P (.tup ds) S) (k : P (.tup ds.reverse) S) : wRev u r S P X := by
  unfold wRev
  rw [h]
  exact k
/-- in a row of spots -/
theorem eqv_DI (a b : Int × Int) : PyData.eqv (toP (DI a)) (toP (DI b)) = decide (a = b) := by
  have e : PyData.eqv (toP (DI a)) (toP (DI b)) = ((a.1 == b.1) && (a.2 == b.2)) := by
    simp [DI, toP, toPL, PyData.eqv, PyData.eqvAll]
  rw [e, Bool.eq_iff_iff, Bool.and_eq_true, beq_iff_eq, beq_iff_eq, decide_eq_true_eq]
  exact ⟨fun h => Prod.ext h.1 h.2, fun h => by subst h; exact ⟨rfl, rfl⟩⟩
theorem any_DI (c : Int × Int) : ∀ cs : List (Int × Int), ((toPL (cs.map DI)).any fun z => PyData.eqv z (toP (DI c))) = decide (c ∈ cs)
  | [] => by simp [toPL]
  | b :: cs => by
    have e : toPL ((b :: cs).map DI) = toP (DI b) :: toPL (cs.map DI) := by simp [toPL]
    rw [e, List.any_cons, eqv_DI, any_DI c cs, Bool.eq_iff_iff, Bool.or_eq_true, decide_eq_true_eq, decide_eq_true_eq, decide_eq_true_eq, List.mem_cons]
    exact or_congr_left ⟨Eq.symm, Eq.symm⟩
theorem ok_int (i : Int) : okD (.int i) = true := by
  unfold okD SeqAt.shaped
  simp [noref, toP, PyData.canLay0, PyData.depth]
end PL
namespace K
open PySem PySem.Spec L2 PL
def clsT : List Str := []
def clsSub : Str → Str → Bool := fun a b => a == b || b == "FieldError"
theorem o_word : PX.FldOk "word" := ⟨fun _ _ _ _ _ _ _ _ _ _ _ _ _ => by rfl, by rfl, by rfl, by rfl, by rfl, fun _ _ => by rfl, fun _ _ => by rfl, by decide +kernel⟩
def c_fraction : Con := fun ds S P X => ∃ t b : Int, ds = [.int t, .int b] ∧ Bd 8000 t ∧ Bd 8000 b ∧ (b ≠ 0 → P (DQ (Rat.divInt t b)) S) ∧ (b = 0 → X ⟨"InvalidSize", [("word", .str "bottom")]⟩ S)
def c__law_source : Con := fun ds S P _ => ∃ ns : List Int, ds = [D0 ns] ∧ ns.length ≤ 63 ∧ ∀ p q S', S p = none → S q = none → Deal S' p q → Fr p q S S' → P (.ref p) S'
def c__law_any : Con := fun ds S P _ => ∃ p q n, ds = [.ref p, .int n] ∧ Deal S p q ∧ 0 < n ∧ Bd 8000 n ∧ ∀ r S', 0 ≤ r → r < n → Deal S' p q → Fr p q S S' → P (.int r) S'
def c__law_common : Con := fun ds S P _ => ∃ a b : Int, ds = [.int a, .int b] ∧ Bd 4000 b ∧ P (.int ((Nat.gcd a.natAbs b.natAbs : Nat) : Int)) S
def c__law_same : Con := fun ds S P _ => ∃ d, ds = [d, d] ∧ Shw d ∧ P (.bl true) S
theorem k__law_same {S : Sto} {P : PD} {X : PX} {d e : D} (h : d = e) (g : Shw d) (k : P (.bl true) S) : c__law_same [d, e] S P X := ⟨d, by rw [h], g, k⟩
def c_plus : Con := fun ds S P _ => ∃ p q : Rat, ds = [DQ p, DQ q] ∧ Sz 2025 p ∧ Sz 2025 q ∧ P (DQ (p + q)) S
theorem k_plus {S : Sto} {P : PD} {X : PX} {p q : Rat} (h : Sz 2025 p) (g : Sz 2025 q) (k : P (DQ (p + q)) S) : c_plus [DQ p, DQ q] S P X := ⟨p, q, rfl, h, g, k⟩
def c_minus : Con := fun ds S P _ => ∃ p q : Rat, ds = [DQ p, DQ q] ∧ Sz 2025 p ∧ Sz 2025 q ∧ P (DQ (p - q)) S
theorem k_minus {S : Sto} {P : PD} {X : PX} {p q : Rat} (h : Sz 2025 p) (g : Sz 2025 q) (k : P (DQ (p - q)) S) : c_minus [DQ p, DQ q] S P X := ⟨p, q, rfl, h, g, k⟩
def c_times : Con := fun ds S P _ => ∃ p q : Rat, ds = [DQ p, DQ q] ∧ Sz 2025 p ∧ Sz 2025 q ∧ P (DQ (p * q)) S
theorem k_times {S : Sto} {P : PD} {X : PX} {p q : Rat} (h : Sz 2025 p) (g : Sz 2025 q) (k : P (DQ (p * q)) S) : c_times [DQ p, DQ q] S P X := ⟨p, q, rfl, h, g, k⟩
def c_over : Con := fun ds S P X => ∃ p q : Rat, ds = [DQ p, DQ q] ∧ Sz 2025 p ∧ Sz 2025 q ∧ (q ≠ 0 → P (DQ (p / q)) S) ∧ (q = 0 → X ⟨"InvalidSize", [("word", .str "bottom")]⟩ S)
theorem k_over {S : Sto} {P : PD} {X : PX} {p q : Rat} (h : Sz 2025 p) (g : Sz 2025 q) (z : q ≠ 0) (k : P (DQ (p / q)) S) : c_over [DQ p, DQ q] S P X := ⟨p, q, rfl, h, g, fun _ => k, fun e => absurd e z⟩
def c_half : Con := fun ds S P _ => ∃ q : Rat, ds = [DQ q] ∧ Sz 2025 q ∧ P (DQ (q / 2)) S
def c__law_of : Con := fun ds S P _ => ∃ p q es, ds = [.ref p, .lst es] ∧ Deal S p q ∧ es ≠ [] ∧ es.length ≤ 1000 ∧ ∀ d ∈ es, ∀ S', Deal S' p q → Fr p q S S' → P d S'
def c__law_low : Con := fun ds S P _ => ∃ t b : Int, ds = [.int t, .int b] ∧ Bd 4000 b ∧ 0 < b ∧ P (DQ (Rat.divInt t b)) S
theorem k__law_low {S : Sto} {P : PD} {X : PX} {t b : Int} (h : Bd 4000 b) (g : 0 < b) (k : P (DQ (Rat.divInt t b)) S) : c__law_low [.int t, .int b] S P X := ⟨t, b, rfl, h, g, k⟩
def c__way : Con := fun ds S P _ => ∃ a b, ds = [DP a, DP b] ∧ SzP 1000 a ∧ SzP 1000 b ∧ P (DP (way a b)) S
theorem k__way {S : Sto} {P : PD} {X : PX} {a b : Rat × Rat} (h : SzP 1000 a) (g : SzP 1000 b) (k : P (DP (way a b)) S) : c__way [DP a, DP b] S P X := ⟨a, b, rfl, h, g, k⟩
def c__cross : Con := fun ds S P _ => ∃ a b, ds = [DP a, DP b] ∧ SzP 1000 a ∧ SzP 1000 b ∧ P (DQ (crs a b)) S
theorem k__cross {S : Sto} {P : PD} {X : PX} {a b : Rat × Rat} (h : SzP 1000 a) (g : SzP 1000 b) (k : P (DQ (crs a b)) S) : c__cross [DP a, DP b] S P X := ⟨a, b, rfl, h, g, k⟩
def c__along : Con := fun ds S P _ => ∃ a b, ds = [DP a, DP b] ∧ SzP 1000 a ∧ SzP 1000 b ∧ P (DQ (alg a b)) S
theorem k__along {S : Sto} {P : PD} {X : PX} {a b : Rat × Rat} (h : SzP 1000 a) (g : SzP 1000 b) (k : P (DQ (alg a b)) S) : c__along [DP a, DP b] S P X := ⟨a, b, rfl, h, g, k⟩
def c_doubled_area : Con := fun ds S P _ => ∃ a b c, ds = [DP a, DP b, DP c] ∧ SzP 200 a ∧ SzP 200 b ∧ SzP 200 c ∧ P (DQ (dar a b c)) S
theorem k_doubled_area {S : Sto} {P : PD} {X : PX} {a b c : Rat × Rat} (ha : SzP 200 a) (hb : SzP 200 b) (hc : SzP 200 c) (k : P (DQ (dar a b c)) S) : c_doubled_area [DP a, DP b, DP c] S P X := ⟨a, b, c, rfl, ha, hb, hc, k⟩
def c_dot : Con := fun ds S P _ => ∃ a b c, ds = [DP a, DP b, DP c] ∧ SzP 200 a ∧ SzP 200 b ∧ SzP 200 c ∧ P (DQ (dotq a b c)) S
theorem k_dot {S : Sto} {P : PD} {X : PX} {a b c : Rat × Rat} (ha : SzP 200 a) (hb : SzP 200 b) (hc : SzP 200 c) (k : P (DQ (dotq a b c)) S) : c_dot [DP a, DP b, DP c] S P X := ⟨a, b, c, rfl, ha, hb, hc, k⟩
abbrev PT := Int × Int
def k_ZERO : D := .tup [.int 0, .int 1]
/-- a triple of numbers, in the law's list -/
abbrev TR := Nat × Nat × Nat
def TD (t : TR) : D := .lst [.int (t.1 : Int), .int (t.2.1 : Int), .int (t.2.2 : Int)]
def TT (t : TR) : D := .tup [.int (t.1 : Int), .int (t.2.1 : Int), .int (t.2.2 : Int)]
def RS (sp : List PT) : D := .lst (sp.map DI)
def RT (tr : List TR) : D := .lst (tr.map TD)
def spt (sp : List PT) (i : Nat) : PT := sp.getD i (0, 0)
def trn (a b c : PT) : Int := (b.1 - a.1) * (c.2 - a.2) - (b.2 - a.2) * (c.1 - a.1)
/-- a triple of points, turned left -/
def triIn (n : Nat) (t : TR) : Prop := t.1 < n ∧ t.2.1 < n ∧ t.2.2 < n
def triOk (sp : List PT) (t : TR) : Prop := triIn sp.length t ∧ 0 < trn (spt sp t.1) (spt sp t.2.1) (spt sp t.2.2)
def bdP (b : Nat) (sp : List PT) : Prop := ∀ c ∈ sp, c.1.natAbs ≤ b ∧ c.2.natAbs ≤ b
/-! which points lie in a triangle -/
def inT (a b c p : PT) : Prop := 0 < trn a b p ∧ 0 < trn b c p ∧ 0 < trn c a p
instance (a b c p : PT) : Decidable (inT a b c p) := by unfold inT; infer_instance
def big (n : Int) (a : PT) : PT := (n * a.1, n * a.2)
def inTr (sp : List PT) (n : Int) (p : PT) (t : TR) : Prop := inT (big n (spt sp t.1)) (big n (spt sp t.2.1)) (big n (spt sp t.2.2)) p
instance (sp : List PT) (n : Int) (p : PT) (t : TR) : Decidable (inTr sp n p t) := by unfold inTr; infer_instance
def cov (sp : List PT) (tr : List TR) (n : Int) (p : PT) : Nat := tr.countP fun t => decide (inTr sp n p t)
/-- on no line through two points -/
def Gen (sp : List PT) (n : Int) (p : PT) : Prop := 0 < n ∧ ∀ i j, i < sp.length → j < sp.length → spt sp i ≠ spt sp j → trn (big n (spt sp i)) (big n (spt sp j)) p ≠ 0
/-- no two triples overlap -/
def Flat (sp : List PT) (tr : List TR) : Prop := ∀ n p, Gen sp n p → cov sp tr n p ≤ 1
/-- a way from corner to corner -/
def hasE (i j : Nat) (t : TR) : Bool := (t.1 == i && t.2.1 == j) || (t.2.1 == i && t.2.2 == j) || (t.2.2 == i && t.1 == j)
/-- the three ways to begin a triple -/
inductive rotT (t : TR) : TR → Prop
  | zero : rotT t t
  | one : rotT t (t.2.1, t.2.2, t.1)
  | two : rotT t (t.2.2, t.1, t.2.1)
/-- what is alike on each triple is alike all over -/
def Cn (n : Nat) (tr : List TR) : Prop := ∀ f : Nat → Int, (∀ t ∈ tr, f t.1 = f t.2.1 ∧ f t.2.1 = f t.2.2) → ∀ i j, i < n → j < n → f i = f j
structure MO (b n m : Nat) (sp : List PT) (tr : List TR) : Prop where
  ok : ∀ t ∈ tr, triOk sp t
  bd : bdP b sp
  ls : sp.length ≤ n
  lt : tr.length ≤ m
  ne : tr ≠ []
  cn : Cn sp.length tr
  fl : Flat sp tr
/-! the program's part -/
def PL' (ps : List (Rat × Rat)) : D := .tup (ps.map DP)
def TL (tr : List TR) : D := .tup (tr.map TT)
def MD (ps : List (Rat × Rat)) (tr : List TR) : D := .obj "Mesh" ["points", "triangles"] [PL' ps, TL tr]
def FQ (fs : List Rat) : D := .tup (fs.map DQ)
def ptAt (ps : List (Rat × Rat)) (i : Nat) : Rat × Rat := ps.getD i (0, 0)
def qAt (fs : List Rat) (i : Nat) : Rat := fs.getD i 0
/-- the triangle at a place, its corners and worths there -/
structure At (ps : List (Rat × Rat)) (tr : List TR) (n : Nat) (t : TR) : Prop where
  at_ : tr[n]? = some t
  a : t.1 < ps.length
  b : t.2.1 < ps.length
  c : t.2.2 < ps.length
def trD (a b c : D) : D := .tup [a, b, c]
def c_corners_at : Con := fun ds S P _ => ∃ ps tr, ∃ (n : Nat), ∃ t, ds = [MD ps tr, .int (n : Int)] ∧ At ps tr n t ∧ P (trD (DP (ptAt ps t.1)) (DP (ptAt ps t.2.1)) (DP (ptAt ps t.2.2))) S
/-- the slope on a triangle -/
def slR (a b c : Rat × Rat) (u v w : Rat) : Rat := ((v - u) * (c.2 - a.2) - (w - u) * (b.2 - a.2)) / dar a b c
def slU (a b c : Rat × Rat) (u v w : Rat) : Rat := ((w - u) * (b.1 - a.1) - (v - u) * (c.1 - a.1)) / dar a b c
structure SmT (ps : List (Rat × Rat)) (fs : List Rat) (t : TR) : Prop where
  pa : SzP 12 (ptAt ps t.1)
  pb : SzP 12 (ptAt ps t.2.1)
  pc : SzP 12 (ptAt ps t.2.2)
  fa : Sz 45 (qAt fs t.1)
  fb : Sz 45 (qAt fs t.2.1)
  fc : Sz 45 (qAt fs t.2.2)
  nz : dar (ptAt ps t.1) (ptAt ps t.2.1) (ptAt ps t.2.2) ≠ 0
abbrev sR (ps : List (Rat × Rat)) (fs : List Rat) (t : TR) : Rat := slR (ptAt ps t.1) (ptAt ps t.2.1) (ptAt ps t.2.2) (qAt fs t.1) (qAt fs t.2.1) (qAt fs t.2.2)
abbrev sU (ps : List (Rat × Rat)) (fs : List Rat) (t : TR) : Rat := slU (ptAt ps t.1) (ptAt ps t.2.1) (ptAt ps t.2.2) (qAt fs t.1) (qAt fs t.2.1) (qAt fs t.2.2)
/-! the law's own sums -/
def c__law_plus : Con := fun ds S P _ => ∃ p q : Rat, ds = [DQ p, DQ q] ∧ Sz 1900 p ∧ Sz 1900 q ∧ P (DQ (p + q)) S
/-! the drawn meshes -/
def c__law_cross : Con := fun ds S P _ => ∃ a b c, ds = [DI a, DI b, DI c] ∧ BP 1000 a ∧ BP 1000 b ∧ BP 1000 c ∧ P (.int (trn a b c)) S
def c__law_third : Con := fun ds S P _ => ∃ tr, ∃ i j : Nat, ds = [RT tr, .int (i : Int), .int (j : Int)] ∧ ((∀ t ∈ tr, hasE i j t = false) → P .non S) ∧ ∀ (k : Nat) (t : TR), t ∈ tr → rotT (i, j, k) t → P (.int (k : Int)) S
def c__law_other : Con := fun ds S P _ => ∃ b n m sp tr, ∃ i j : Nat, ds = [RS sp, RT tr, .int (i : Int), .int (j : Int)] ∧ (b ≤ 2000 ∧ n ≤ 40 ∧ m ≤ 100) ∧ MO b n m sp tr ∧ i < sp.length ∧ j < sp.length ∧ P .non S ∧ ∀ tr', MO b n m sp tr' → P (RT tr') S
def c__law_flipped : Con := fun ds S P _ => ∃ b n m sp tr t, ds = [RS sp, RT tr, TD t] ∧ (b ≤ 2000 ∧ n ≤ 40 ∧ m ≤ 100) ∧ MO b n m sp tr ∧ t ∈ tr ∧ ∀ tr', MO b n m sp tr' → P (RT tr') S
def dvP (q : Int) (sp : List PT) : Prop := ∀ c ∈ sp, q ∣ c.1 ∧ q ∣ c.2
def c__law_split : Con := fun ds S P _ => ∃ p q b n m sp tr e, ds = [.ref p, RS sp, RT tr] ∧ Deal S p q ∧ (b ≤ 2000 ∧ n ≤ 40 ∧ m ≤ 100) ∧ MO b n m sp tr ∧ dvP (4 * e) sp ∧ ∀ sp' tr' S', MO b (n + 1) (m + 2) sp' tr' → dvP e sp' → Deal S' p q → Fr p q S S' → P (.tup [RS sp', RT tr']) S'
/-- a row of places, ascending from 0 -/
structure Asc (n : Nat) (l : List Int) : Prop where
  len : l.length = n + 1
  up : ∀ i, i < n → l.getD i 0 + 1 ≤ l.getD (i + 1) 0
  bd : ∀ x ∈ l, 0 ≤ x ∧ x ≤ 4 * (n : Int)
def grP (xs ys : List Int) : List PT := ys.flatMap fun y => xs.map fun x => (x, y)
def celT (w i j : Nat) (t : TR) : Prop := t = (i * (w + 1) + j, i * (w + 1) + j + 1, i * (w + 1) + j + w + 2) ∨ t = (i * (w + 1) + j, i * (w + 1) + j + w + 2, i * (w + 1) + j + w + 1) ∨
  t = (i * (w + 1) + j, i * (w + 1) + j + 1, i * (w + 1) + j + w + 1) ∨ t = (i * (w + 1) + j + 1, i * (w + 1) + j + w + 2, i * (w + 1) + j + w + 1)
def celL (w h m : Nat) (tr : List TR) : Prop := tr.length ≤ m ∧ ∀ t ∈ tr, ∃ i j, i < h ∧ j < w ∧ celT w i j t
/-- each cell but one is covered -/
def covC (w c : Nat) (f : Nat → Int) : Prop := f (c / w * (w + 1) + c % w) = f (c / w * (w + 1) + c % w + 1) ∧ f (c / w * (w + 1) + c % w) = f (c / w * (w + 1) + c % w + w + 2) ∧ f (c / w * (w + 1) + c % w) = f (c / w * (w + 1) + c % w + w + 1)
def alk (f : Nat → Int) (tr : List TR) : Prop := ∀ t ∈ tr, f t.1 = f t.2.1 ∧ f t.2.1 = f t.2.2
/-- both triples of a cell -/
def pairC (w i j : Nat) (t u : TR) : Prop := (t = (i * (w + 1) + j, i * (w + 1) + j + 1, i * (w + 1) + j + w + 2) ∧ u = (i * (w + 1) + j, i * (w + 1) + j + w + 2, i * (w + 1) + j + w + 1)) ∨
  (t = (i * (w + 1) + j, i * (w + 1) + j + 1, i * (w + 1) + j + w + 1) ∧ u = (i * (w + 1) + j + 1, i * (w + 1) + j + w + 2, i * (w + 1) + j + w + 1))
/-- of two cells, or both of one -/
def CelR (w h : Nat) (t u : TR) : Prop := ∃ i j i' j', (i < h ∧ j < w ∧ i' < h ∧ j' < w) ∧ celT w i j t ∧ celT w i' j' u ∧ (¬ (i = i' ∧ j = j') ∨ pairC w i j t u)
def covL (w h : Nat) (g : Int) (tr : List TR) : Prop := ∀ f : Nat → Int, alk f tr → ∀ c, c < w * h → (c : Int) ≠ g → covC w c f
def c__law_grid : Con := fun ds S P _ => ∃ p q, ∃ w h : Nat, ∃ g : Int, ds = [.ref p, .int (w : Int), .int (h : Int), .int g] ∧ Deal S p q ∧ (1 ≤ w ∧ w ≤ 3 ∧ 1 ≤ h ∧ h ≤ 3 ∧ g ≠ 0) ∧
  ∀ xs ys tr S', Asc w xs → Asc h ys → celL w h 18 tr → tr ≠ [] → covL w h g tr → tr.Pairwise (CelR w h) → Deal S' p q → Fr p q S S' → P (.tup [RS (grP xs ys), RT tr]) S'
def nrP (e : Int) (a b : PT) : Prop := -e ≤ a.1 - b.1 ∧ a.1 - b.1 ≤ e ∧ -e ≤ a.2 - b.2 ∧ a.2 - b.2 ≤ e
def nrL (e : Int) (sp sq : List PT) : Prop := sp.length = sq.length ∧ ∀ k, k < sq.length → nrP e (spt sp k) (spt sq k)
def c__law_moved : Con := fun ds S P _ => ∃ p q sp, ∃ b : Int, ∃ w h : Nat, ds = [.ref p, .int b, RS sp, .int (w : Int), .int (h : Int)] ∧ Deal S p q ∧ (1 ≤ w ∧ w ≤ 3 ∧ 1 ≤ h ∧ h ≤ 3 ∧ 1 ≤ b ∧ b ≤ 64) ∧ sp.length = (w + 1) * (h + 1) ∧
  ∀ sp' S', nrL (b / 8) sp' sp → Deal S' p q → Fr p q S S' → P (RS sp') S'
def c__law_fan : Con := fun ds S P _ => ∃ p q, ∃ b : Int, ds = [.ref p, .int b] ∧ Deal S p q ∧ (1 ≤ b ∧ b ≤ 30) ∧ ∀ sp tr S', MO 400 9 8 sp tr → Deal S' p q → Fr p q S S' → P (.tup [RS sp, RT tr]) S'
def c__law_parted : Con := fun ds S P _ => ∃ p q, ∃ b : Int, ds = [.ref p, .int b] ∧ Deal S p q ∧ (b = 1 ∨ b = 4 ∨ b = 16 ∨ b = 64) ∧ ∀ sp tr S', MO 400 6 7 sp tr → Deal S' p q → Fr p q S S' → P (.tup [RS sp, RT tr]) S'
def c__law_mesh : Con := fun ds S P _ => ∃ p q, ds = [.ref p] ∧ Deal S p q ∧ ∀ (b : Int) sp tr S', 1 ≤ b → b ≤ 64 → MO 2000 16 18 sp tr → Deal S' p q → Fr p q S S' → P (.tup [.int b, RS sp, RT tr]) S'
inductive RotL : List TR → List TR → Prop
  | nil : RotL [] []
  | cons {t u : TR} {ts us : List TR} : rotT t u → RotL ts us → RotL (t :: ts) (u :: us)
/-- the same triples, each begun anywhere, in any row -/
def RotP (tr tr' : List TR) : Prop := ∃ us : List TR, RotL tr us ∧ us.Perm tr'
def ovP (b : Int) (sp : List PT) : List (Rat × Rat) := sp.map fun c => pnt c b
def c__law_made : Con := fun ds S P _ => ∃ sp tr, ∃ b : Int, ∃ B n m, ds = [RS sp, RT tr, .int b] ∧ (n ≤ 40 ∧ m ≤ 100) ∧ MO B n m sp tr ∧ 1 ≤ b ∧ b ≤ 64 ∧ ∀ tr', MO B n m sp tr' → RotP tr tr' → P (.tup [PL' (ovP b sp), TL tr']) S
def WZ (ws : List Int) : D := .lst (ws.map D.int)
def wzB (sp : List PT) (ws : List Int) : Prop := ws.length = sp.length ∧ ∀ x ∈ ws, x.natAbs ≤ 20000
def wzA (ws : List Int) (k : Nat) : Int := ws.getD k 0
/-- the two parts of a slope, over twice the area -/
def eR (a b c : PT) (u v w : Int) : Int := (v - u) * (c.2 - a.2) - (w - u) * (b.2 - a.2)
def eU (a b c : PT) (u v w : Int) : Int := (w - u) * (b.1 - a.1) - (v - u) * (c.1 - a.1)
def eE (a b c : PT) (u v w : Int) : Int := eR a b c u v w * eR a b c u v w + eU a b c u v w * eU a b c u v w
def eQ (sp : List PT) (ws : List Int) (t : TR) : Rat := Rat.divInt (eE (spt sp t.1) (spt sp t.2.1) (spt sp t.2.2) (wzA ws t.1) (wzA ws t.2.1) (wzA ws t.2.2)) (2 * trn (spt sp t.1) (spt sp t.2.1) (spt sp t.2.2))
/-! sums -/
def sQ {α : Type} (f : α → Rat) : List α → Rat
  | [] => 0
  | x :: xs => f x + sQ f xs
/-- a fraction over a told bottom, its top not above a bound -/
def Ov (D : Int) (k : Nat) (q : Rat) : Prop := ∃ t : Int, q = Rat.divInt t D ∧ t.natAbs ≤ k
/-- the product of all doubled areas -/
def dnT (sp : List PT) : List TR → Int
  | [] => 1
  | t :: ts => trn (spt sp t.1) (spt sp t.2.1) (spt sp t.2.2) * dnT sp ts
def eE2 (a b c : PT) (u v w x y z : Int) : Int := eR a b c u v w * eR a b c x y z + eU a b c u v w * eU a b c x y z
def eQ2 (sp : List PT) (ws wo : List Int) (t : TR) : Rat := Rat.divInt (eE2 (spt sp t.1) (spt sp t.2.1) (spt sp t.2.2) (wzA ws t.1) (wzA ws t.2.1) (wzA ws t.2.2) (wzA wo t.1) (wzA wo t.2.1) (wzA wo t.2.2)) (2 * trn (spt sp t.1) (spt sp t.2.1) (spt sp t.2.2))
/-! the program's weights and energies -/
def cot (a b c : Rat × Rat) : Rat := dotq a b c / dar a b c
def c_cotangent : Con := fun ds S P _ => ∃ a b c, ds = [DP a, DP b, DP c] ∧ SzP 20 a ∧ SzP 20 b ∧ SzP 20 c ∧ dar a b c ≠ 0 ∧ P (DQ (cot a b c)) S
structure GT (D : Int) (K : Nat) (ps : List (Rat × Rat)) (t : TR) : Prop where
  ins : triIn ps.length t
  nz0 : dar (ptAt ps t.1) (ptAt ps t.2.1) (ptAt ps t.2.2) ≠ 0
  nz1 : dar (ptAt ps t.2.1) (ptAt ps t.2.2) (ptAt ps t.1) ≠ 0
  nz2 : dar (ptAt ps t.2.2) (ptAt ps t.1) (ptAt ps t.2.1) ≠ 0
  o0 : Ov D K (cot (ptAt ps t.1) (ptAt ps t.2.1) (ptAt ps t.2.2))
  o1 : Ov D K (cot (ptAt ps t.2.1) (ptAt ps t.2.2) (ptAt ps t.1))
  o2 : Ov D K (cot (ptAt ps t.2.2) (ptAt ps t.1) (ptAt ps t.2.1))
structure MG (D : Int) (K : Nat) (ps : List (Rat × Rat)) (tr : List TR) : Prop where
  ok : ∀ t ∈ tr, GT D K ps t
  sz : ∀ p ∈ ps, SzP 20 p
  lt : tr.length ≤ 24
  lp : ps.length ≤ 40
  nz : D ≠ 0
  bD : Bd 800 D
  bK : K < 2 ^ 850
/-- by the edges of a triple: cotangents times a value of both ends -/
def eG (ps : List (Rat × Rat)) (g : Nat → Nat → Rat) (t : TR) : Rat :=
  cot (ptAt ps t.2.2) (ptAt ps t.1) (ptAt ps t.2.1) * g t.1 t.2.1 + cot (ptAt ps t.1) (ptAt ps t.2.1) (ptAt ps t.2.2) * g t.2.1 t.2.2 + cot (ptAt ps t.2.1) (ptAt ps t.2.2) (ptAt ps t.1) * g t.2.2 t.1
abbrev WT := Nat × Nat × Rat
def WD (w : WT) : D := .tup [.int (w.1 : Int), .int (w.2.1 : Int), DQ w.2.2]
structure WtOk (D : Int) (K : Nat) (ps : List (Rat × Rat)) (tr : List TR) (ws : List WT) : Prop where
  len : ws.length ≤ 72
  ok : ∀ w ∈ ws, w.1 < ps.length ∧ w.2.1 < ps.length ∧ Ov (2 * D) (72 * K) w.2.2
  sum : ∀ g : Nat → Nat → Rat, (∀ i j, g i j = g j i) → sQ (fun w : WT => w.2.2 * g w.1 w.2.1) ws = sQ (eG ps g) tr / 2
def c_weights_of : Con := fun ds S P _ => ∃ ps tr D K, ds = [MD ps tr] ∧ MG D K ps tr ∧ ∀ ws, WtOk D K ps tr ws → P (.tup (ws.map WD)) S
structure FO (L : Int) (M : Nat) (n : Nat) (fs : List Rat) : Prop where
  len : fs.length = n
  ok : ∀ x ∈ fs, Ov L M x
def dG (f o : List Rat) (i j : Nat) : Rat := (qAt f j - qAt f i) * (qAt o j - qAt o i)
def c_mixed_energy : Con := fun ds S P _ => ∃ ps tr D K L M f o, ds = [MD ps tr, FQ f, FQ o] ∧ MG D K ps tr ∧ (1 ≤ L ∧ L ≤ 400 ∧ M < 2 ^ 22) ∧ FO L M ps.length f ∧ FO L M ps.length o ∧ P (DQ (sQ (eG ps (dG f o)) tr / 2)) S
def c_energy : Con := fun ds S P _ => ∃ ps tr D K L M f, ds = [MD ps tr, FQ f] ∧ MG D K ps tr ∧ (1 ≤ L ∧ L ≤ 400 ∧ M < 2 ^ 22) ∧ FO L M ps.length f ∧ P (DQ (sQ (eG ps (dG f f)) tr / 4)) S
def teQ (ps : List (Rat × Rat)) (fs : List Rat) (t : TR) : Rat := Rat.divInt 1 4 * dar (ptAt ps t.1) (ptAt ps t.2.1) (ptAt ps t.2.2) * (sR ps fs t * sR ps fs t + sU ps fs t * sU ps fs t)
def c_law : Con := LawC
/-! edges, and the law's own weights -/
def k_ONE : D := .tup [.int 1, .int 1]
def eKey (i j : Nat) : Nat × Nat := (min i j, max i j)
def isEdge (t : TR) (e : Nat × Nat) : Prop := e = eKey t.1 t.2.1 ∨ e = eKey t.2.1 t.2.2 ∨ e = eKey t.2.2 t.1
def DE (e : Nat × Nat) : D := .tup [.int (e.1 : Int), .int (e.2 : Int)]
def c__law_edges : Con := fun ds S P _ => ∃ tr n, ds = [RT tr] ∧ n ≤ 40 ∧ (∀ t ∈ tr, triIn n t) ∧ 3 * tr.length < 64 ∧ ∀ es : List (Nat × Nat), es.Nodup → (∀ e, e ∈ es ↔ ∃ t ∈ tr, isEdge t e) → P (.lst (es.map DE)) S
/-- half the cotangent at the third corner, for a way from i to j -/
def hC (a b c : PT) : Rat := Rat.divInt (ldot c a b) (2 * trn c a b)
def dirQ (sp : List PT) (i j : Nat) (t : TR) : Rat := (if t.1 = i ∧ t.2.1 = j then hC (spt sp t.1) (spt sp t.2.1) (spt sp t.2.2) else 0) + (if t.2.1 = i ∧ t.2.2 = j then hC (spt sp t.2.1) (spt sp t.2.2) (spt sp t.1) else 0) + (if t.2.2 = i ∧ t.1 = j then hC (spt sp t.2.2) (spt sp t.1) (spt sp t.2.1) else 0)
def lwQ (sp : List PT) (tr : List TR) (i j : Nat) : Rat := sQ (dirQ sp i j) tr
/-- what flows out of v over the way between two points -/
def hv (ws : List Int) (v i j : Nat) : Rat := if i = v then ((wzA ws v - wzA ws j : Int) : Rat) else if j = v then ((wzA ws v - wzA ws i : Int) : Rat) else 0
def flT (sp : List PT) (ws : List Int) (v : Nat) (t : TR) : Rat := hC (spt sp t.1) (spt sp t.2.1) (spt sp t.2.2) * hv ws v t.1 t.2.1 + hC (spt sp t.2.1) (spt sp t.2.2) (spt sp t.1) * hv ws v t.2.1 t.2.2 + hC (spt sp t.2.2) (spt sp t.1) (spt sp t.2.1) * hv ws v t.2.2 t.1
def uni (n v : Nat) : List Rat := (List.range n).map fun k => if k = v then 1 else 0
def c_unit_field : Con := fun ds S P _ => ∃ ps tr, ∃ v : Nat, ds = [MD ps tr, .int (v : Int)] ∧ ps.length ≤ 100 ∧ P (FQ (uni ps.length v)) S
def c_worths_at : Con := fun ds S P _ => ∃ ps tr, ∃ (n : Nat), ∃ t fs, ds = [MD ps tr, .int (n : Int), FQ fs] ∧ At ps tr n t ∧ fs.length = ps.length ∧ P (trD (DQ (qAt fs t.1)) (DQ (qAt fs t.2.1)) (DQ (qAt fs t.2.2))) S
def c_slope : Con := fun ds S P _ => ∃ ps tr, ∃ (n : Nat), ∃ t fs, ds = [MD ps tr, .int (n : Int), FQ fs] ∧ At ps tr n t ∧ fs.length = ps.length ∧ SmT ps fs t ∧ P (.tup [DQ (sR ps fs t), DQ (sU ps fs t)]) S
def c_linear_field : Con := fun ds S P _ => ∃ ps tr s r u, ds = [MD ps tr, DQ s, DQ r, DQ u] ∧ ps.length ≤ 100 ∧ (∀ p ∈ ps, SzP 12 p) ∧ Sz 5 s ∧ Sz 5 r ∧ Sz 5 u ∧ P (FQ (ps.map fun p => s + (r * p.1 + u * p.2))) S
def c_triangle_energy : Con := fun ds S P _ => ∃ ps tr, ∃ (n : Nat), ∃ t fs, ds = [MD ps tr, .int (n : Int), FQ fs] ∧ At ps tr n t ∧ fs.length = ps.length ∧ SmT ps fs t ∧
  P (DQ (Rat.divInt 1 4 * dar (ptAt ps t.1) (ptAt ps t.2.1) (ptAt ps t.2.2) * (sR ps fs t * sR ps fs t + sU ps fs t * sU ps fs t))) S
def c_energy_by_triangles : Con := fun ds S P _ => ∃ ps tr fs D K, ds = [MD ps tr, FQ fs] ∧ fs.length = ps.length ∧ tr.length ≤ 24 ∧ (D ≠ 0 ∧ Bd 900 D ∧ K < 2 ^ 950) ∧ (∀ t ∈ tr, triIn ps.length t ∧ SmT ps fs t ∧ Ov D K (teQ ps fs t)) ∧ P (DQ (sQ (teQ ps fs) tr)) S
/-- all ways at a point are there both ways -/
def InnP (tr : List TR) (v : Nat) : Prop := ∀ t ∈ tr, ∀ i j, (i = v ∨ j = v) → hasE i j t = true → ∃ u ∈ tr, hasE j i u = true
def c__law_inner : Con := fun ds S P _ => ∃ sp tr n m, ds = [RS sp, RT tr] ∧ (n ≤ 40 ∧ m ≤ 18) ∧ MO 2000 n m sp tr ∧ ∀ ks : List Nat, (∀ v ∈ ks, v < sp.length ∧ InnP tr v) → ks.length ≤ 40 → P (.lst (ks.map fun k : Nat => .int (k : Int))) S
def N_fraction : List Str := ["top", "bottom", "common"]
def w_fraction_0 : WS := (sRet (wTup (wCons (w2 oDiv (wVar 0) (wVar 2)) (wCons (w2 oDiv (wVar 1) (wVar 2)) wNil))))
def w_fraction_1 : WS := (sSet (wN oGcd (wCons (wVar 0) (wCons (wVar 1) wNil))) (gVar 2))
def w_fraction_2 : WS := (sSeq w_fraction_1 w_fraction_0)
def w_fraction_3 : WS := (sPar2 0 1 (wCons (w1 oNeg (wVar 0)) (wCons (w1 oNeg (wVar 1)) wNil)))
def w_fraction_4 : WS := (sIf (wBl (w2 (oCmpI fun i j => decide (i < j)) (wVar 1) (wC (.int 0)))) w_fraction_3 sSkip)
def w_fraction_5 : WS := (sSeq w_fraction_4 w_fraction_2)
def w_fraction_6 : WS := (sRaise "InvalidSize" "word" (wCons (wC (.str "bottom")) wNil))
def w_fraction_7 : WS := (sIf (wBl (w2 oEq (wVar 1) (wC (.int 0)))) w_fraction_6 sSkip)
def w_fraction_8 : WS := (sSeq w_fraction_7 w_fraction_5)
def w_fraction : WS := w_fraction_8
def N__law_source : List Str := ["_law_script", "_law_cells", "_law_blend", "_law_cell"]
def w__law_source_0 : WS := (sRet (wNew (wCons (wRevN (wLc (wItems (wVar 1)) (gVar 3) (wBl (w2 (oCmpI fun i j => decide (j ≤ i)) (wVar 3) (w2 oPow (wC (.int 10)) (wC (.int 18))))) (wVar 3) [3])) (wCons (wVar 2) wNil))))
def w__law_source_1 : WS := (sSet (w2 oMod (wN oInt (wCons (w2 oAdd (w2 oAdd (w2 oMul (wVar 2) (wC (.int 48271))) (w2 oMod (wVar 3) (wC (.int 2147483549)))) (wC (.int 41))) wNil)) (wC (.int 2147483647))) (gVar 2))
def w__law_source_2 : WS := (sFor (wItems (wVar 1)) (gVar 3) w__law_source_1)
def w__law_source_3 : WS := (sSeq w__law_source_2 w__law_source_0)
def w__law_source_4 : WS := (sSet (wC (.int 304044)) (gVar 2))
def w__law_source_5 : WS := (sSeq w__law_source_4 w__law_source_3)
def w__law_source_6 : WS := (sSet (wLc (wItems (wSlice (wVar 0) none (some (wC (.int 63))))) (gVar 3) tYesD (wN oAbs (wCons (wN oInt (wCons (wVar 3) wNil)) wNil)) [3]) (gVar 1))
def w__law_source_7 : WS := (sSeq w__law_source_6 w__law_source_5)
def w__law_source : WS := w__law_source_7
def N__law_any : List Str := ["_law_deal", "_law_bound", "_law_rest"]
def w__law_any_0 : WS := (sRet (w2 oMod (wN oInt (wCons (w2 oDiv (w2 oIdx (wVar 0) (wC (.int 1))) (wC (.int 64))) wNil)) (wVar 1)))
def w__law_any_1 : WS := (sSet (w2 oMod (wN oInt (wCons (w2 oAdd (w2 oMul (w2 oIdx (wVar 0) (wC (.int 1))) (wC (.int 48271))) (wC (.int 41))) wNil)) (wC (.int 2147483647))) (gSubD (wVar 0) (wC (.int 1))))
def w__law_any_2 : WS := (sSeq w__law_any_1 w__law_any_0)
def w__law_any_3 : WS := (sRet (w2 oMod (wVar 2) (wVar 1)))
def w__law_any_4 : WS := (sExpr (wApp (w2 oIdx (wVar 0) (wC (.int 0))) (w2 oDiv (wVar 2) (wVar 1))))
def w__law_any_5 : WS := (sSeq w__law_any_4 w__law_any_3)
def w__law_any_6 : WS := (sSet (wN oInt (wCons (wPop (w2 oIdx (wVar 0) (wC (.int 0)))) wNil)) (gVar 2))
def w__law_any_7 : WS := (sSeq w__law_any_6 w__law_any_5)
def w__law_any_8 : WS := (sIf (wBl (w2 oNe (w2 oIdx (wVar 0) (wC (.int 0))) (wLst wNil))) w__law_any_7 sSkip)
def w__law_any_9 : WS := (sSeq w__law_any_8 w__law_any_2)
def w__law_any_10 : WS := (sExpr (wPop (w2 oIdx (wVar 0) (wC (.int 0)))))
def w__law_any_11 : WS := (sWhile (wAndB (wBl (w2 oNe (w2 oIdx (wVar 0) (wC (.int 0))) (wLst wNil))) (wBl (w2 oEq (w2 oIdx (w2 oIdx (wVar 0) (wC (.int 0))) (w1 oNeg (wC (.int 1)))) (wC (.int 0))))) w__law_any_10)
def w__law_any_12 : WS := (sSeq w__law_any_11 w__law_any_9)
def w__law_any : WS := w__law_any_12
def N__law_common : List Str := ["_law_one", "_law_other_here", "_law_step"]
def w__law_common_0 : WS := (sRet (wVar 0))
def w__law_common_1 : WS := (sPar2 0 1 (wCons (wVar 1) (wCons (w2 oMod (wN oInt (wCons (wVar 0) wNil)) (wVar 1)) wNil)))
def w__law_common_2 : WS := (sIf (wBl (w2 oEq (wVar 1) (wC (.int 0)))) sBreak sSkip)
def w__law_common_3 : WS := (sSeq w__law_common_2 w__law_common_1)
def w__law_common_4 : WS := (sFor (wRange1 (wCons (wC (.int 9000)) wNil)) (gVar 2) w__law_common_3)
def w__law_common_5 : WS := (sSeq w__law_common_4 w__law_common_0)
def w__law_common_6 : WS := (sPar2 0 1 (wCons (wN oAbs (wCons (wN oInt (wCons (wVar 0) wNil)) wNil)) (wCons (wN oAbs (wCons (wN oInt (wCons (wVar 1) wNil)) wNil)) wNil)))
def w__law_common_7 : WS := (sSeq w__law_common_6 w__law_common_5)
def w__law_common : WS := w__law_common_7
def N__law_same : List Str := ["_law_told", "_law_due"]
def w__law_same : WS := (sRet (w2 oEq (wN oRepr (wCons (wVar 0) wNil)) (wN oRepr (wCons (wVar 1) wNil))))
def N__law_cross : List Str := ["_law_a", "_law_b", "_law_c"]
def w__law_cross : WS := (sRet (w2 oSub (w2 oMul (w2 oSub (w2 oIdx (wVar 1) (wC (.int 0))) (w2 oIdx (wVar 0) (wC (.int 0)))) (w2 oSub (w2 oIdx (wVar 2) (wC (.int 1))) (w2 oIdx (wVar 0) (wC (.int 1))))) (w2 oMul (w2 oSub (w2 oIdx (wVar 1) (wC (.int 1))) (w2 oIdx (wVar 0) (wC (.int 1)))) (w2 oSub (w2 oIdx (wVar 2) (wC (.int 0))) (w2 oIdx (wVar 0) (wC (.int 0)))))))
def N__law_third : List Str := ["_law_triples", "_law_one", "_law_other_here", "_law_a", "_law_b", "_law_c"]
def w__law_third_0 : WS := (sRet (wC .non))
def w__law_third_1 : WS := (sRet (wVar 4))
def w__law_third_2 : WS := (sIf (wBl (w2 oEq (wTup (wCons (wVar 5) (wCons (wVar 3) wNil))) (wTup (wCons (wVar 1) (wCons (wVar 2) wNil))))) w__law_third_1 sSkip)
def w__law_third_3 : WS := (sRet (wVar 3))
def w__law_third_4 : WS := (sIf (wBl (w2 oEq (wTup (wCons (wVar 4) (wCons (wVar 5) wNil))) (wTup (wCons (wVar 1) (wCons (wVar 2) wNil))))) w__law_third_3 sSkip)
def w__law_third_5 : WS := (sSeq w__law_third_4 w__law_third_2)
def w__law_third_6 : WS := (sRet (wVar 5))
def w__law_third_7 : WS := (sIf (wBl (w2 oEq (wTup (wCons (wVar 3) (wCons (wVar 4) wNil))) (wTup (wCons (wVar 1) (wCons (wVar 2) wNil))))) w__law_third_6 sSkip)
def w__law_third_8 : WS := (sSeq w__law_third_7 w__law_third_5)
def w__law_third_9 : WS := (sFor (wItems (wVar 0)) (gTupD 3 (gConsD (gVar 3) (gConsD (gVar 4) (gConsD (gVar 5) gNilD)))) w__law_third_8)
def w__law_third_10 : WS := (sSeq w__law_third_9 w__law_third_0)
def w__law_third : WS := w__law_third_10
def N__law_edges : List Str := ["_law_triples", "_law_found", "_law_a", "_law_b", "_law_c"]
def w__law_edges_0 : WS := (sRet (wSortSet (wVar 1)))
def w__law_edges_1 : WS := (sSet (w2 oAdd (wVar 1) (wLst (wCons (wTup (wCons (wN oMin (wCons (wVar 2) (wCons (wVar 3) wNil))) (wCons (wN oMax (wCons (wVar 2) (wCons (wVar 3) wNil))) wNil))) (wCons (wTup (wCons (wN oMin (wCons (wVar 3) (wCons (wVar 4) wNil))) (wCons (wN oMax (wCons (wVar 3) (wCons (wVar 4) wNil))) wNil))) (wCons (wTup (wCons (wN oMin (wCons (wVar 2) (wCons (wVar 4) wNil))) (wCons (wN oMax (wCons (wVar 2) (wCons (wVar 4) wNil))) wNil))) wNil))))) (gVar 1))
def w__law_edges_2 : WS := (sFor (wItems (wVar 0)) (gTupD 3 (gConsD (gVar 2) (gConsD (gVar 3) (gConsD (gVar 4) gNilD)))) w__law_edges_1)
def w__law_edges_3 : WS := (sSeq w__law_edges_2 w__law_edges_0)
def w__law_edges_4 : WS := (sSet (wLst wNil) (gVar 1))
def w__law_edges_5 : WS := (sSeq w__law_edges_4 w__law_edges_3)
def w__law_edges : WS := w__law_edges_5
def N_plus : List Str := ["one", "other"]
def w_plus : WS := (sRet (wCall c_fraction [] (wCons (w2 oAdd (w2 oMul (w2 oIdx (wVar 0) (wC (.int 0))) (w2 oIdx (wVar 1) (wC (.int 1)))) (w2 oMul (w2 oIdx (wVar 1) (wC (.int 0))) (w2 oIdx (wVar 0) (wC (.int 1))))) (wCons (w2 oMul (w2 oIdx (wVar 0) (wC (.int 1))) (w2 oIdx (wVar 1) (wC (.int 1)))) wNil)) wNil))
def N_minus : List Str := ["one", "other"]
def w_minus : WS := (sRet (wCall c_fraction [] (wCons (w2 oSub (w2 oMul (w2 oIdx (wVar 0) (wC (.int 0))) (w2 oIdx (wVar 1) (wC (.int 1)))) (w2 oMul (w2 oIdx (wVar 1) (wC (.int 0))) (w2 oIdx (wVar 0) (wC (.int 1))))) (wCons (w2 oMul (w2 oIdx (wVar 0) (wC (.int 1))) (w2 oIdx (wVar 1) (wC (.int 1)))) wNil)) wNil))
def N_times : List Str := ["one", "other"]
def w_times : WS := (sRet (wCall c_fraction [] (wCons (w2 oMul (w2 oIdx (wVar 0) (wC (.int 0))) (w2 oIdx (wVar 1) (wC (.int 0)))) (wCons (w2 oMul (w2 oIdx (wVar 0) (wC (.int 1))) (w2 oIdx (wVar 1) (wC (.int 1)))) wNil)) wNil))
def N_over : List Str := ["one", "other"]
def w_over : WS := (sRet (wCall c_fraction [] (wCons (w2 oMul (w2 oIdx (wVar 0) (wC (.int 0))) (w2 oIdx (wVar 1) (wC (.int 1)))) (wCons (w2 oMul (w2 oIdx (wVar 0) (wC (.int 1))) (w2 oIdx (wVar 1) (wC (.int 0)))) wNil)) wNil))
def N_half : List Str := ["one"]
def w_half : WS := (sRet (wCall c_fraction [] (wCons (w2 oIdx (wVar 0) (wC (.int 0))) (wCons (w2 oMul (wC (.int 2)) (w2 oIdx (wVar 0) (wC (.int 1)))) wNil)) wNil))
def N__law_of : List Str := ["_law_deal", "_law_some"]
def w__law_of : WS := (sRet (w2 oIdx (wVar 1) (wCall c__law_any [] (wCons (wVar 0) (wCons (wN oLen (wCons (wVar 1) wNil)) wNil)) wNil)))
def N__law_low : List Str := ["_law_top", "_law_bottom", "_law_common_here"]
def w__law_low_0 : WS := (sRet (wTup (wCons (w2 oDiv (wN oInt (wCons (wVar 0) wNil)) (wVar 2)) (wCons (w2 oDiv (wN oInt (wCons (wVar 1) wNil)) (wVar 2)) wNil))))
def w__law_low_1 : WS := (sSet (wCall c__law_common [] (wCons (wVar 0) (wCons (wVar 1) wNil)) wNil) (gVar 2))
def w__law_low_2 : WS := (sSeq w__law_low_1 w__law_low_0)
def w__law_low : WS := w__law_low_2
def N__law_split : List Str := ["_law_deal", "_law_spots", "_law_triples", "_law_x", "_law_y", "_law_new", "_law_at", "_law_first", "_law_a", "_law_b", "_law_c"]
def w__law_split_0 : WS := (sRet (wTup (wCons (w2 oAdd (wVar 1) (wLst (wCons (wTup (wCons (wVar 3) (wCons (wVar 4) wNil))) wNil))) (wCons (w2 oAdd (w2 oAdd (wSlice (wVar 2) none (some (wVar 6))) (wSlice (wVar 2) (some (w2 oAdd (wVar 6) (wC (.int 1)))) none)) (wLst (wCons (wLst (wCons (wVar 8) (wCons (wVar 9) (wCons (wVar 5) wNil)))) (wCons (wLst (wCons (wVar 9) (wCons (wVar 10) (wCons (wVar 5) wNil)))) (wCons (wLst (wCons (wVar 10) (wCons (wVar 8) (wCons (wVar 5) wNil)))) wNil))))) wNil))))
def w__law_split_1 : WS := (sSet (wN oLen (wCons (wVar 1) wNil)) (gVar 5))
def w__law_split_2 : WS := (sSeq w__law_split_1 w__law_split_0)
def w__law_split_3 : WS := (sSet (w2 oDiv (w2 oAdd (w2 oAdd (w2 oMul (wC (.int 2)) (w2 oIdx (w2 oIdx (wVar 1) (wVar 8)) (wC (.int 1)))) (w2 oIdx (w2 oIdx (wVar 1) (wVar 9)) (wC (.int 1)))) (w2 oIdx (w2 oIdx (wVar 1) (wVar 10)) (wC (.int 1)))) (wC (.int 4))) (gVar 4))
def w__law_split_4 : WS := (sSeq w__law_split_3 w__law_split_2)
def w__law_split_5 : WS := (sSet (w2 oDiv (w2 oAdd (w2 oAdd (w2 oMul (wC (.int 2)) (w2 oIdx (w2 oIdx (wVar 1) (wVar 8)) (wC (.int 0)))) (w2 oIdx (w2 oIdx (wVar 1) (wVar 9)) (wC (.int 0)))) (w2 oIdx (w2 oIdx (wVar 1) (wVar 10)) (wC (.int 0)))) (wC (.int 4))) (gVar 3))
def w__law_split_6 : WS := (sSeq w__law_split_5 w__law_split_4)
def w__law_split_7 : WS := (sSet (w2 oAdd (wSlice (w2 oIdx (wVar 2) (wVar 6)) (some (wVar 7)) none) (wSlice (w2 oIdx (wVar 2) (wVar 6)) none (some (wVar 7)))) (gTupD 3 (gConsD (gVar 8) (gConsD (gVar 9) (gConsD (gVar 10) gNilD)))))
def w__law_split_8 : WS := (sSeq w__law_split_7 w__law_split_6)
def w__law_split_9 : WS := (sPar2 6 7 (wCons (wCall c__law_any [] (wCons (wVar 0) (wCons (wN oLen (wCons (wVar 2) wNil)) wNil)) wNil) (wCons (wCall c__law_any [] (wCons (wVar 0) (wCons (wC (.int 3)) wNil)) wNil) wNil)))
def w__law_split_10 : WS := (sSeq w__law_split_9 w__law_split_8)
def w__law_split : WS := w__law_split_10
def N__law_grid : List Str := ["_law_deal", "_law_wide", "_law_high", "_law_gap", "_law_step", "_law_y", "_law_cell", "_law_xs", "_law_ys", "_law_spots", "_law_triples", "_law_a", "_law_b", "_law_c", "_law_d", "_law_x"]
def w__law_grid_0 : WS := (sRet (wTup (wCons (wVar 9) (wCons (wVar 10) wNil))))
def w__law_grid_1 : WS := (sSet (w2 oAdd (wVar 10) (wIf (wBl (w2 oEq (wCall c__law_any [] (wCons (wVar 0) (wCons (wC (.int 2)) wNil)) wNil) (wC (.int 0)))) (wLst (wCons (wLst (wCons (wVar 11) (wCons (wVar 12) (wCons (wVar 13) wNil)))) (wCons (wLst (wCons (wVar 11) (wCons (wVar 13) (wCons (wVar 14) wNil)))) wNil))) (wLst (wCons (wLst (wCons (wVar 11) (wCons (wVar 12) (wCons (wVar 14) wNil)))) (wCons (wLst (wCons (wVar 12) (wCons (wVar 13) (wCons (wVar 14) wNil)))) wNil))))) (gVar 10))
def w__law_grid_2 : WS := (sIf (wBl (w2 oNe (wVar 6) (wVar 3))) w__law_grid_1 sSkip)
def w__law_grid_3 : WS := (sPar3 12 13 14 (wCons (w2 oAdd (wVar 11) (wC (.int 1))) (wCons (w2 oAdd (w2 oAdd (wVar 11) (wVar 1)) (wC (.int 2))) (wCons (w2 oAdd (w2 oAdd (wVar 11) (wVar 1)) (wC (.int 1))) wNil))))
def w__law_grid_4 : WS := (sSeq w__law_grid_3 w__law_grid_2)
def w__law_grid_5 : WS := (sSet (w2 oAdd (w2 oMul (w2 oDiv (wVar 6) (wVar 1)) (w2 oAdd (wVar 1) (wC (.int 1)))) (w2 oMod (wN oInt (wCons (wVar 6) wNil)) (wVar 1))) (gVar 11))
def w__law_grid_6 : WS := (sSeq w__law_grid_5 w__law_grid_4)
def w__law_grid_7 : WS := (sFor (wRange1 (wCons (w2 oMul (wVar 1) (wVar 2)) wNil)) (gVar 6) w__law_grid_6)
def w__law_grid_8 : WS := (sSeq w__law_grid_7 w__law_grid_0)
def w__law_grid_9 : WS := (sSet (w2 oAdd (wVar 9) (wLc (wItems (wVar 7)) (gVar 15) tYesD (wTup (wCons (wVar 15) (wCons (wVar 5) wNil))) [15])) (gVar 9))
def w__law_grid_10 : WS := (sFor (wItems (wVar 8)) (gVar 5) w__law_grid_9)
def w__law_grid_11 : WS := (sPre 8 w__law_grid_10)
def w__law_grid_12 : WS := (sPre 7 w__law_grid_11)
def w__law_grid_13 : WS := (sSeq w__law_grid_12 w__law_grid_8)
def w__law_grid_14 : WS := (sPar2 9 10 (wCons (wLst wNil) (wCons (wLst wNil) wNil)))
def w__law_grid_15 : WS := (sSeq w__law_grid_14 w__law_grid_13)
def w__law_grid_16 : WS := (sExpr (wApp (wVar 8) (w2 oAdd (w2 oAdd (w2 oIdx (wVar 8) (w1 oNeg (wC (.int 1)))) (wC (.int 1))) (wCall c__law_any [] (wCons (wVar 0) (wCons (wC (.int 4)) wNil)) wNil))))
def w__law_grid_17 : WS := (sFor (wRange1 (wCons (wVar 2) wNil)) (gVar 4) w__law_grid_16)
def w__law_grid_18 : WS := (sSeq w__law_grid_17 w__law_grid_15)
def w__law_grid_19 : WS := (sExpr (wApp (wVar 7) (w2 oAdd (w2 oAdd (w2 oIdx (wVar 7) (w1 oNeg (wC (.int 1)))) (wC (.int 1))) (wCall c__law_any [] (wCons (wVar 0) (wCons (wC (.int 4)) wNil)) wNil))))
def w__law_grid_20 : WS := (sFor (wRange1 (wCons (wVar 1) wNil)) (gVar 4) w__law_grid_19)
def w__law_grid_21 : WS := (sSeq w__law_grid_20 w__law_grid_18)
def w__law_grid_22 : WS := (sPar2 7 8 (wCons (wNew (wCons (wC (.int 0)) wNil)) (wCons (wNew (wCons (wC (.int 0)) wNil)) wNil)))
def w__law_grid_23 : WS := (sSeq w__law_grid_22 w__law_grid_21)
def w__law_grid : WS := w__law_grid_23
def N__law_other : List Str := ["_law_spots", "_law_triples", "_law_one", "_law_other_here", "_law_gone", "_law_left", "_law_right", "_law_triple"]
def w__law_other_0 : WS := (sRet (w2 oAdd (wLc (wItems (wVar 1)) (gVar 7) (wBl (w2 oNotIn (wN oSorted (wCons (wVar 7) wNil)) (wVar 4))) (wVar 7) [7]) (wLst (wCons (wLst (wCons (wVar 6) (wCons (wVar 3) (wCons (wVar 5) wNil)))) (wCons (wLst (wCons (wVar 6) (wCons (wVar 5) (wCons (wVar 2) wNil)))) wNil)))))
def w__law_other_1 : WS := (sSet (wLst (wCons (wN oSorted (wCons (wLst (wCons (wVar 2) (wCons (wVar 3) (wCons (wVar 5) wNil)))) wNil)) (wCons (wN oSorted (wCons (wLst (wCons (wVar 2) (wCons (wVar 3) (wCons (wVar 6) wNil)))) wNil)) wNil))) (gVar 4))
def w__law_other_2 : WS := (sSeq w__law_other_1 w__law_other_0)
def w__law_other_3 : WS := (sRet (wC .non))
def w__law_other_4 : WS := (sIf (wOrB (wBl (w2 (oCmpI fun i j => decide (i ≤ j)) (wCall c__law_cross [] (wCons (w2 oIdx (wVar 0) (wVar 6)) (wCons (w2 oIdx (wVar 0) (wVar 3)) (wCons (w2 oIdx (wVar 0) (wVar 5)) wNil))) wNil) (wC (.int 0)))) (wBl (w2 (oCmpI fun i j => decide (i ≤ j)) (wCall c__law_cross [] (wCons (w2 oIdx (wVar 0) (wVar 6)) (wCons (w2 oIdx (wVar 0) (wVar 5)) (wCons (w2 oIdx (wVar 0) (wVar 2)) wNil))) wNil) (wC (.int 0))))) w__law_other_3 sSkip)
def w__law_other_5 : WS := (sSeq w__law_other_4 w__law_other_2)
def w__law_other_6 : WS := (sRet (wC .non))
def w__law_other_7 : WS := (sIf (wOrB (wBl (w2 oIs (wVar 5) (wC .non))) (wBl (w2 oIs (wVar 6) (wC .non)))) w__law_other_6 sSkip)
def w__law_other_8 : WS := (sSeq w__law_other_7 w__law_other_5)
def w__law_other_9 : WS := (sPar2 5 6 (wCons (wCall c__law_third [] (wCons (wVar 1) (wCons (wVar 2) (wCons (wVar 3) wNil))) wNil) (wCons (wCall c__law_third [] (wCons (wVar 1) (wCons (wVar 3) (wCons (wVar 2) wNil))) wNil) wNil)))
def w__law_other_10 : WS := (sSeq w__law_other_9 w__law_other_8)
def w__law_other : WS := w__law_other_10
def N__law_moved : List Str := ["_law_deal", "_law_bottom", "_law_spots", "_law_wide", "_law_high", "_law_row", "_law_found", "_law_near", "_law_place", "_law_at"]
def w__law_moved_0 : WS := (sRet (wVar 6))
def w__law_moved_1 : WS := (sPre 6 w__law_moved_0)
def w__law_moved_2 : WS := (sSet (wTup (wCons (w2 oSub (w2 oAdd (w2 oIdx (w2 oIdx (wVar 6) (wVar 9)) (wC (.int 0))) (wCall c__law_any [] (wCons (wVar 0) (wCons (w2 oAdd (w2 oMul (wC (.int 2)) (wVar 7)) (wC (.int 1))) wNil)) wNil)) (wVar 7)) (wCons (w2 oSub (w2 oAdd (w2 oIdx (w2 oIdx (wVar 6) (wVar 9)) (wC (.int 1))) (wCall c__law_any [] (wCons (wVar 0) (wCons (w2 oAdd (w2 oMul (wC (.int 2)) (wVar 7)) (wC (.int 1))) wNil)) wNil)) (wVar 7)) wNil))) (gSubD (wVar 6) (wVar 9)))
def w__law_moved_3 : WS := (sSet (w2 oAdd (w2 oMul (wVar 5) (w2 oAdd (wVar 3) (wC (.int 1)))) (wVar 8)) (gVar 9))
def w__law_moved_4 : WS := (sSeq w__law_moved_3 w__law_moved_2)
def w__law_moved_5 : WS := (sFor (wRange2 (wCons (wC (.int 1)) (wCons (wVar 3) wNil))) (gVar 8) w__law_moved_4)
def w__law_moved_6 : WS := (sFor (wRange2 (wCons (wC (.int 1)) (wCons (wVar 4) wNil))) (gVar 5) w__law_moved_5)
def w__law_moved_7 : WS := (sSeq w__law_moved_6 w__law_moved_1)
def w__law_moved_8 : WS := (sPar2 6 7 (wCons (wN (oListM true) (wCons (wVar 2) wNil)) (wCons (w2 oDiv (wVar 1) (wC (.int 8))) wNil)))
def w__law_moved_9 : WS := (sSeq w__law_moved_8 w__law_moved_7)
def w__law_moved : WS := w__law_moved_9
def N__law_fan : List Str := ["_law_deal", "_law_bottom", "_law_ways", "_law_spots", "_law_way", "_law_size", "_law_at"]
def w__law_fan_0 : WS := (sRet (wTup (wCons (wVar 3) (wCons (wLc (wRange2 (wCons (wC (.int 1)) (wCons (wC (.int 9)) wNil))) (gVar 6) tYesD (wLst (wCons (wC (.int 0)) (wCons (wVar 6) (wCons (w2 oAdd (wC (.int 1)) (w2 oMod (wN oInt (wCons (wVar 6) wNil)) (wC (.int 8)))) wNil)))) [6]) wNil))))
def w__law_fan_1 : WS := (sPre 3 w__law_fan_0)
def w__law_fan_2 : WS := (sExpr (wApp (wVar 3) (wTup (wCons (w2 oMul (wVar 5) (w2 oIdx (wVar 4) (wC (.int 0)))) (wCons (w2 oMul (wVar 5) (w2 oIdx (wVar 4) (wC (.int 1)))) wNil)))))
def w__law_fan_3 : WS := (sSet (w2 oMul (wVar 1) (w2 oAdd (wC (.int 1)) (wCall c__law_any [] (wCons (wVar 0) (wCons (wC (.int 4)) wNil)) wNil))) (gVar 5))
def w__law_fan_4 : WS := (sSeq w__law_fan_3 w__law_fan_2)
def w__law_fan_5 : WS := (sFor (wItems (wVar 2)) (gVar 4) w__law_fan_4)
def w__law_fan_6 : WS := (sSeq w__law_fan_5 w__law_fan_1)
def w__law_fan_7 : WS := (sSet (wNew (wCons (wTup (wCons (w2 oSub (wCall c__law_any [] (wCons (wVar 0) (wCons (w2 oAdd (wVar 1) (wC (.int 1))) wNil)) wNil) (w2 oDiv (wVar 1) (wC (.int 2)))) (wCons (w2 oSub (wCall c__law_any [] (wCons (wVar 0) (wCons (w2 oAdd (wVar 1) (wC (.int 1))) wNil)) wNil) (w2 oDiv (wVar 1) (wC (.int 2)))) wNil))) wNil)) (gVar 3))
def w__law_fan_8 : WS := (sSeq w__law_fan_7 w__law_fan_6)
def w__law_fan_9 : WS := (sSet (wLst (wCons (wTup (wCons (wC (.int 3)) (wCons (wC (.int 0)) wNil))) (wCons (wTup (wCons (wC (.int 2)) (wCons (wC (.int 2)) wNil))) (wCons (wTup (wCons (wC (.int 0)) (wCons (wC (.int 3)) wNil))) (wCons (wTup (wCons (w1 oNeg (wC (.int 2))) (wCons (wC (.int 2)) wNil))) (wCons (wTup (wCons (w1 oNeg (wC (.int 3))) (wCons (wC (.int 0)) wNil))) (wCons (wTup (wCons (w1 oNeg (wC (.int 2))) (wCons (w1 oNeg (wC (.int 2))) wNil))) (wCons (wTup (wCons (wC (.int 0)) (wCons (w1 oNeg (wC (.int 3))) wNil))) (wCons (wTup (wCons (wC (.int 2)) (wCons (w1 oNeg (wC (.int 2))) wNil))) wNil))))))))) (gVar 2))
def w__law_fan_10 : WS := (sSeq w__law_fan_9 w__law_fan_8)
def w__law_fan : WS := w__law_fan_10
def N__law_inner : List Str := ["_law_spots", "_law_triples", "_law_found", "_law_at", "_law_edges_here", "_law_borders", "_law_edge", "_law_one", "_law_other_here"]
def w__law_inner_0 : WS := (sRet (wVar 2))
def w__law_inner_1 : WS := (sPre 2 w__law_inner_0)
def w__law_inner_2 : WS := (sExpr (wApp (wVar 2) (wVar 3)))
def w__law_inner_3 : WS := (sIf (wBl (w2 oEq (wVar 5) (wLst wNil))) w__law_inner_2 sSkip)
def w__law_inner_4 : WS := (sSet (wLc (wItems (wVar 4)) (gTupD 2 (gConsD (gVar 7) (gConsD (gVar 8) gNilD))) (wOrB (wBl (w2 oIs (wCall c__law_third [] (wCons (wVar 1) (wCons (wVar 7) (wCons (wVar 8) wNil))) wNil) (wC .non))) (wBl (w2 oIs (wCall c__law_third [] (wCons (wVar 1) (wCons (wVar 8) (wCons (wVar 7) wNil))) wNil) (wC .non)))) (wC (.int 1)) [7, 8]) (gVar 5))
def w__law_inner_5 : WS := (sSeq w__law_inner_4 w__law_inner_3)
def w__law_inner_6 : WS := (sSet (wLc (wItems (wCall c__law_edges [] (wCons (wVar 1) wNil) wNil)) (gVar 6) (wBl (w2 oIn (wVar 3) (wVar 6))) (wVar 6) [6]) (gVar 4))
def w__law_inner_7 : WS := (sSeq w__law_inner_6 w__law_inner_5)
def w__law_inner_8 : WS := (sFor (wRange1 (wCons (wN oLen (wCons (wVar 0) wNil)) wNil)) (gVar 3) w__law_inner_7)
def w__law_inner_9 : WS := (sSeq w__law_inner_8 w__law_inner_1)
def w__law_inner_10 : WS := (sSet (wNew wNil) (gVar 2))
def w__law_inner_11 : WS := (sSeq w__law_inner_10 w__law_inner_9)
def w__law_inner : WS := w__law_inner_11
def N__way : List Str := ["a", "b"]
def w__way : WS := (sRet (wTup (wCons (wCall c_minus [] (wCons (w2 oIdx (wVar 1) (wC (.int 0))) (wCons (w2 oIdx (wVar 0) (wC (.int 0))) wNil)) wNil) (wCons (wCall c_minus [] (wCons (w2 oIdx (wVar 1) (wC (.int 1))) (wCons (w2 oIdx (wVar 0) (wC (.int 1))) wNil)) wNil) wNil))))
def N__cross : List Str := ["one", "other"]
def w__cross : WS := (sRet (wCall c_minus [] (wCons (wCall c_times [] (wCons (w2 oIdx (wVar 0) (wC (.int 0))) (wCons (w2 oIdx (wVar 1) (wC (.int 1))) wNil)) wNil) (wCons (wCall c_times [] (wCons (w2 oIdx (wVar 0) (wC (.int 1))) (wCons (w2 oIdx (wVar 1) (wC (.int 0))) wNil)) wNil) wNil)) wNil))
def N__along : List Str := ["one", "other"]
def w__along : WS := (sRet (wCall c_plus [] (wCons (wCall c_times [] (wCons (w2 oIdx (wVar 0) (wC (.int 0))) (wCons (w2 oIdx (wVar 1) (wC (.int 0))) wNil)) wNil) (wCons (wCall c_times [] (wCons (w2 oIdx (wVar 0) (wC (.int 1))) (wCons (w2 oIdx (wVar 1) (wC (.int 1))) wNil)) wNil) wNil)) wNil))
def N_corners_at : List Str := ["mesh", "number", "a", "b", "c"]
def w_corners_at_0 : WS := (sRet (wTup (wCons (w2 oIdx (wFld "Mesh" ["points", "triangles"] 0 (wVar 0)) (wVar 2)) (wCons (w2 oIdx (wFld "Mesh" ["points", "triangles"] 0 (wVar 0)) (wVar 3)) (wCons (w2 oIdx (wFld "Mesh" ["points", "triangles"] 0 (wVar 0)) (wVar 4)) wNil)))))
def w_corners_at_1 : WS := (sSet (w2 oIdx (wFld "Mesh" ["points", "triangles"] 1 (wVar 0)) (wVar 1)) (gTupD 3 (gConsD (gVar 2) (gConsD (gVar 3) (gConsD (gVar 4) gNilD)))))
def w_corners_at_2 : WS := (sSeq w_corners_at_1 w_corners_at_0)
def w_corners_at : WS := w_corners_at_2
def N_worths_at : List Str := ["mesh", "number", "field", "point"]
def w_worths_at : WS := (sRet (wN oTuple (wCons (wLc (wItems (w2 oIdx (wFld "Mesh" ["points", "triangles"] 1 (wVar 0)) (wVar 1))) (gVar 3) tYesD (w2 oIdx (wVar 2) (wVar 3)) [3]) wNil)))
def N_linear_field : List Str := ["mesh", "start", "right", "up", "x", "y"]
def w_linear_field : WS := (sRet (wN oTuple (wCons (wLc (wItems (wFld "Mesh" ["points", "triangles"] 0 (wVar 0))) (gTupD 2 (gConsD (gVar 4) (gConsD (gVar 5) gNilD))) tYesD (wCall c_plus [] (wCons (wVar 1) (wCons (wCall c_plus [] (wCons (wCall c_times [] (wCons (wVar 2) (wCons (wVar 4) wNil)) wNil) (wCons (wCall c_times [] (wCons (wVar 3) (wCons (wVar 5) wNil)) wNil) wNil)) wNil) wNil)) wNil) [4, 5]) wNil)))
def N_unit_field : List Str := ["mesh", "point", "number"]
def w_unit_field : WS := (sRet (wN oTuple (wCons (wLc (wRange1 (wCons (wN oLen (wCons (wFld "Mesh" ["points", "triangles"] 0 (wVar 0)) wNil)) wNil)) (gVar 2) tYesD (wIf (wBl (w2 oEq (wVar 2) (wVar 1))) (wC k_ONE) (wC k_ZERO)) [2]) wNil)))
def N__law_parted : List Str := ["_law_deal", "_law_bottom", "_law_spots", "_law_triples", "_law_step"]
def w__law_parted_0 : WS := (sRet (wTup (wCons (wVar 2) (wCons (wVar 3) wNil))))
def w__law_parted_1 : WS := (sSet (wCall c__law_split [] (wCons (wVar 0) (wCons (wVar 2) (wCons (wVar 3) wNil))) wNil) (gTupD 2 (gConsD (gVar 2) (gConsD (gVar 3) gNilD))))
def w__law_parted_2 : WS := (sIf (wBl (w2 (oCmpI fun i j => decide (j ≤ i)) (wVar 1) (w2 oIdx (wLst (wCons (wC (.int 4)) (wCons (wC (.int 16)) (wCons (wC (.int 64)) wNil)))) (wVar 4)))) w__law_parted_1 sSkip)
def w__law_parted_3 : WS := (sFor (wRange1 (wCons (wC (.int 3)) wNil)) (gVar 4) w__law_parted_2)
def w__law_parted_4 : WS := (sSeq w__law_parted_3 w__law_parted_0)
def w__law_parted_5 : WS := (sSet (wLst (wCons (wLst (wCons (wC (.int 0)) (wCons (wC (.int 1)) (wCons (wC (.int 2)) wNil)))) wNil)) (gVar 3))
def w__law_parted_6 : WS := (sSeq w__law_parted_5 w__law_parted_4)
def w__law_parted_7 : WS := (sSet (wLst (wCons (wTup (wCons (wC (.int 0)) (wCons (wC (.int 0)) wNil))) (wCons (wTup (wCons (w2 oMul (wVar 1) (w2 oAdd (wC (.int 2)) (wCall c__law_any [] (wCons (wVar 0) (wCons (wC (.int 4)) wNil)) wNil))) (wCons (w2 oMul (wVar 1) (wCall c__law_any [] (wCons (wVar 0) (wCons (wC (.int 2)) wNil)) wNil)) wNil))) (wCons (wTup (wCons (w2 oMul (wVar 1) (wCall c__law_any [] (wCons (wVar 0) (wCons (wC (.int 3)) wNil)) wNil)) (wCons (w2 oMul (wVar 1) (w2 oAdd (wC (.int 2)) (wCall c__law_any [] (wCons (wVar 0) (wCons (wC (.int 4)) wNil)) wNil))) wNil))) wNil)))) (gVar 2))
def w__law_parted_8 : WS := (sSeq w__law_parted_7 w__law_parted_6)
def w__law_parted : WS := w__law_parted_8
def N__law_flipped : List Str := ["_law_spots", "_law_triples", "_law_triple", "_law_found"]
def w__law_flipped_0 : WS := (sRet (wIf (wBl (w2 oIs (wVar 3) (wC .non))) (wVar 1) (wVar 3)))
def w__law_flipped_1 : WS := (sSet (wCall c__law_other [] (wCons (wVar 0) (wCons (wVar 1) (wCons (w2 oIdx (wVar 2) (wC (.int 0))) (wCons (w2 oIdx (wVar 2) (wC (.int 1))) wNil)))) wNil) (gVar 3))
def w__law_flipped_2 : WS := (sSeq w__law_flipped_1 w__law_flipped_0)
def w__law_flipped : WS := w__law_flipped_2
def N__law_made : List Str := ["_law_spots", "_law_triples", "_law_bottom", "_law_found", "_law_triple", "_law_points", "_law_at", "_law_x", "_law_y"]
def w__law_made_0 : WS := (sRet (wTup (wCons (wN oTuple (wCons (wVar 5) wNil)) (wCons (wN oTuple (wCons (wN oSorted (wCons (wVar 3) wNil)) wNil)) wNil))))
def w__law_made_1 : WS := (sSet (wLc (wItems (wVar 0)) (gTupD 2 (gConsD (gVar 7) (gConsD (gVar 8) gNilD))) tYesD (wTup (wCons (wCall c__law_low [] (wCons (wVar 7) (wCons (wVar 2) wNil)) wNil) (wCons (wCall c__law_low [] (wCons (wVar 8) (wCons (wVar 2) wNil)) wNil) wNil))) [7, 8]) (gVar 5))
def w__law_made_2 : WS := (sSeq w__law_made_1 w__law_made_0)
def w__law_made_3 : WS := (sExpr (wApp (wVar 3) (wN oTuple (wCons (w2 oAdd (wSlice (wVar 4) (some (wVar 6)) none) (wSlice (wVar 4) none (some (wVar 6)))) wNil))))
def w__law_made_4 : WS := (sSet (wIndex (wVar 4) (wN oMin (wCons (wVar 4) wNil))) (gVar 6))
def w__law_made_5 : WS := (sSeq w__law_made_4 w__law_made_3)
def w__law_made_6 : WS := (sFor (wItems (wVar 1)) (gVar 4) w__law_made_5)
def w__law_made_7 : WS := (sSeq w__law_made_6 w__law_made_2)
def w__law_made_8 : WS := (sSet (wNew wNil) (gVar 3))
def w__law_made_9 : WS := (sSeq w__law_made_8 w__law_made_7)
def w__law_made : WS := w__law_made_9
def N__law_plus : List Str := ["_law_one", "_law_other_here"]
def w__law_plus : WS := (sRet (wCall c__law_low [] (wCons (w2 oAdd (w2 oMul (w2 oIdx (wVar 0) (wC (.int 0))) (w2 oIdx (wVar 1) (wC (.int 1)))) (w2 oMul (w2 oIdx (wVar 1) (wC (.int 0))) (w2 oIdx (wVar 0) (wC (.int 1))))) (wCons (w2 oMul (w2 oIdx (wVar 0) (wC (.int 1))) (w2 oIdx (wVar 1) (wC (.int 1)))) wNil)) wNil))
def N_doubled_area : List Str := ["a", "b", "c"]
def w_doubled_area : WS := (sRet (wCall c__cross [] (wCons (wCall c__way [] (wCons (wVar 0) (wCons (wVar 1) wNil)) wNil) (wCons (wCall c__way [] (wCons (wVar 0) (wCons (wVar 2) wNil)) wNil) wNil)) wNil))
def N_dot : List Str := ["a", "b", "c"]
def w_dot : WS := (sRet (wCall c__along [] (wCons (wCall c__way [] (wCons (wVar 0) (wCons (wVar 1) wNil)) wNil) (wCons (wCall c__way [] (wCons (wVar 0) (wCons (wVar 2) wNil)) wNil) wNil)) wNil))
def N__law_mesh : List Str := ["_law_deal", "_law_slant", "_law_spots", "_law_step", "_law_form", "_law_bottom", "_law_triple", "_law_triples", "_law_x", "_law_y", "_law_wide", "_law_high"]
def w__law_mesh_0 : WS := (sRet (wTup (wCons (wVar 5) (wCons (wVar 2) (wCons (wVar 7) wNil)))))
def w__law_mesh_1 : WS := (sSet (wCall c__law_flipped [] (wCons (wVar 2) (wCons (wVar 7) (wCons (wVar 6) wNil))) wNil) (gVar 7))
def w__law_mesh_2 : WS := (sSet (wCall c__law_of [] (wCons (wVar 0) (wCons (wVar 7) wNil)) wNil) (gVar 6))
def w__law_mesh_3 : WS := (sSeq w__law_mesh_2 w__law_mesh_1)
def w__law_mesh_4 : WS := (sFor (wRange1 (wCons (wCall c__law_any [] (wCons (wVar 0) (wCons (wC (.int 4)) wNil)) wNil) wNil)) (gVar 3) w__law_mesh_3)
def w__law_mesh_5 : WS := (sSeq w__law_mesh_4 w__law_mesh_0)
def w__law_mesh_6 : WS := (sSet (wLc (wItems (wVar 2)) (gTupD 2 (gConsD (gVar 8) (gConsD (gVar 9) gNilD))) tYesD (wTup (wCons (w2 oAdd (wVar 8) (w2 oMul (wVar 1) (wVar 9))) (wCons (wVar 9) wNil))) [8, 9]) (gVar 2))
def w__law_mesh_7 : WS := (sSeq w__law_mesh_6 w__law_mesh_5)
def w__law_mesh_8 : WS := (sSet (w2 oSub (wCall c__law_any [] (wCons (wVar 0) (wCons (wC (.int 5)) wNil)) wNil) (wC (.int 2))) (gVar 1))
def w__law_mesh_9 : WS := (sSeq w__law_mesh_8 w__law_mesh_7)
def w__law_mesh_10 : WS := (sSet (wCall c__law_fan [] (wCons (wVar 0) (wCons (wVar 5) wNil)) wNil) (gTupD 2 (gConsD (gVar 2) (gConsD (gVar 7) gNilD))))
def w__law_mesh_11 : WS := (sSet (wLc (wItems (wVar 2)) (gTupD 2 (gConsD (gVar 8) (gConsD (gVar 9) gNilD))) tYesD (wTup (wCons (w2 oMul (wVar 5) (wVar 8)) (wCons (w2 oMul (wVar 5) (wVar 9)) wNil))) [8, 9]) (gVar 2))
def w__law_mesh_12 : WS := (sSet (wCall c__law_grid [] (wCons (wVar 0) (wCons (wC (.int 3)) (wCons (wC (.int 3)) (wCons (wC (.int 4)) wNil)))) wNil) (gTupD 2 (gConsD (gVar 2) (gConsD (gVar 7) gNilD))))
def w__law_mesh_13 : WS := (sSeq w__law_mesh_12 w__law_mesh_11)
def w__law_mesh_14 : WS := (sSet (wCall c__law_moved [] (wCons (wVar 0) (wCons (wVar 5) (wCons (wLc (wItems (wVar 2)) (gTupD 2 (gConsD (gVar 8) (gConsD (gVar 9) gNilD))) tYesD (wTup (wCons (w2 oMul (wVar 5) (wVar 8)) (wCons (w2 oMul (wVar 5) (wVar 9)) wNil))) [8, 9]) (wCons (wVar 10) (wCons (wVar 11) wNil))))) wNil) (gVar 2))
def w__law_mesh_15 : WS := (sSet (wCall c__law_grid [] (wCons (wVar 0) (wCons (wVar 10) (wCons (wVar 11) (wCons (w1 oNeg (wC (.int 1))) wNil)))) wNil) (gTupD 2 (gConsD (gVar 2) (gConsD (gVar 7) gNilD))))
def w__law_mesh_16 : WS := (sSeq w__law_mesh_15 w__law_mesh_14)
def w__law_mesh_17 : WS := (sPar2 10 11 (wCons (w2 oAdd (wC (.int 1)) (wCall c__law_any [] (wCons (wVar 0) (wCons (wC (.int 3)) wNil)) wNil)) (wCons (w2 oAdd (wC (.int 1)) (wCall c__law_any [] (wCons (wVar 0) (wCons (wC (.int 2)) wNil)) wNil)) wNil)))
def w__law_mesh_18 : WS := (sSeq w__law_mesh_17 w__law_mesh_16)
def w__law_mesh_19 : WS := (sSet (wCall c__law_parted [] (wCons (wVar 0) (wCons (wVar 5) wNil)) wNil) (gTupD 2 (gConsD (gVar 2) (gConsD (gVar 7) gNilD))))
def w__law_mesh_20 : WS := (sSet (wCall c__law_of [] (wCons (wVar 0) (wCons (wLst (wCons (wC (.int 1)) (wCons (wC (.int 4)) (wCons (wC (.int 16)) (wCons (wC (.int 64)) wNil))))) wNil)) wNil) (gVar 5))
def w__law_mesh_21 : WS := (sSeq w__law_mesh_20 w__law_mesh_19)
def w__law_mesh_22 : WS := (sIf (wBl (w2 oEq (wVar 4) (wC (.int 1)))) w__law_mesh_18 w__law_mesh_21)
def w__law_mesh_23 : WS := (sIf (wAndB (wBl (w2 oEq (wVar 4) (wC (.int 1)))) (wBl (w2 oEq (wCall c__law_any [] (wCons (wVar 0) (wCons (wC (.int 3)) wNil)) wNil) (wC (.int 0))))) w__law_mesh_13 w__law_mesh_22)
def w__law_mesh_24 : WS := (sIf (wBl (w2 oEq (wVar 4) (wC (.int 0)))) w__law_mesh_10 w__law_mesh_23)
def w__law_mesh_25 : WS := (sSeq w__law_mesh_24 w__law_mesh_9)
def w__law_mesh_26 : WS := (sSet (wTup (wCons (wCall c__law_any [] (wCons (wVar 0) (wCons (wC (.int 4)) wNil)) wNil) (wCons (wCall c__law_of [] (wCons (wVar 0) (wCons (wLst (wCons (wC (.int 1)) (wCons (wC (.int 2)) (wCons (wC (.int 9)) (wCons (wC (.int 16)) (wCons (wC (.int 30)) wNil)))))) wNil)) wNil) wNil))) (gTupD 2 (gConsD (gVar 4) (gConsD (gVar 5) gNilD))))
def w__law_mesh_27 : WS := (sSeq w__law_mesh_26 w__law_mesh_25)
def w__law_mesh : WS := w__law_mesh_27
def N_slope : List Str := ["mesh", "number", "field", "right", "up", "area", "a", "b", "c", "one", "two", "three", "more", "most"]
def w_slope_0 : WS := (sRet (wTup (wCons (wCall c_over [] (wCons (wVar 3) (wCons (wVar 5) wNil)) wNil) (wCons (wCall c_over [] (wCons (wVar 4) (wCons (wVar 5) wNil)) wNil) wNil))))
def w_slope_1 : WS := (sSet (wCall c_doubled_area [] (wCons (wVar 6) (wCons (wVar 7) (wCons (wVar 8) wNil))) wNil) (gVar 5))
def w_slope_2 : WS := (sSeq w_slope_1 w_slope_0)
def w_slope_3 : WS := (sSet (wCall c_minus [] (wCons (wCall c_times [] (wCons (wVar 13) (wCons (wCall c_minus [] (wCons (w2 oIdx (wVar 7) (wC (.int 0))) (wCons (w2 oIdx (wVar 6) (wC (.int 0))) wNil)) wNil) wNil)) wNil) (wCons (wCall c_times [] (wCons (wVar 12) (wCons (wCall c_minus [] (wCons (w2 oIdx (wVar 8) (wC (.int 0))) (wCons (w2 oIdx (wVar 6) (wC (.int 0))) wNil)) wNil) wNil)) wNil) wNil)) wNil) (gVar 4))
def w_slope_4 : WS := (sSeq w_slope_3 w_slope_2)
def w_slope_5 : WS := (sSet (wCall c_minus [] (wCons (wCall c_times [] (wCons (wVar 12) (wCons (wCall c_minus [] (wCons (w2 oIdx (wVar 8) (wC (.int 1))) (wCons (w2 oIdx (wVar 6) (wC (.int 1))) wNil)) wNil) wNil)) wNil) (wCons (wCall c_times [] (wCons (wVar 13) (wCons (wCall c_minus [] (wCons (w2 oIdx (wVar 7) (wC (.int 1))) (wCons (w2 oIdx (wVar 6) (wC (.int 1))) wNil)) wNil) wNil)) wNil) wNil)) wNil) (gVar 3))
def w_slope_6 : WS := (sSeq w_slope_5 w_slope_4)
def w_slope_7 : WS := (sPar2 12 13 (wCons (wCall c_minus [] (wCons (wVar 10) (wCons (wVar 9) wNil)) wNil) (wCons (wCall c_minus [] (wCons (wVar 11) (wCons (wVar 9) wNil)) wNil) wNil)))
def w_slope_8 : WS := (sSeq w_slope_7 w_slope_6)
def w_slope_9 : WS := (sSet (wCall c_worths_at [] (wCons (wVar 0) (wCons (wVar 1) (wCons (wVar 2) wNil))) wNil) (gTupD 3 (gConsD (gVar 9) (gConsD (gVar 10) (gConsD (gVar 11) gNilD)))))
def w_slope_10 : WS := (sSeq w_slope_9 w_slope_8)
def w_slope_11 : WS := (sSet (wCall c_corners_at [] (wCons (wVar 0) (wCons (wVar 1) wNil)) wNil) (gTupD 3 (gConsD (gVar 6) (gConsD (gVar 7) (gConsD (gVar 8) gNilD)))))
def w_slope_12 : WS := (sSeq w_slope_11 w_slope_10)
def w_slope : WS := w_slope_12
def N_cotangent : List Str := ["a", "b", "c"]
def w_cotangent : WS := (sRet (wCall c_over [] (wCons (wCall c_dot [] (wCons (wVar 0) (wCons (wVar 1) (wCons (wVar 2) wNil))) wNil) (wCons (wCall c_doubled_area [] (wCons (wVar 0) (wCons (wVar 1) (wCons (wVar 2) wNil))) wNil) wNil)) wNil))
def N_triangle_energy : List Str := ["mesh", "number", "field", "a", "b", "c", "right", "up"]
def w_triangle_energy_0 : WS := (sRet (wCall c_times [] (wCons (wCall c_times [] (wCons (wTup (wCons (wC (.int 1)) (wCons (wC (.int 4)) wNil))) (wCons (wCall c_doubled_area [] (wCons (wVar 3) (wCons (wVar 4) (wCons (wVar 5) wNil))) wNil) wNil)) wNil) (wCons (wCall c_plus [] (wCons (wCall c_times [] (wCons (wVar 6) (wCons (wVar 6) wNil)) wNil) (wCons (wCall c_times [] (wCons (wVar 7) (wCons (wVar 7) wNil)) wNil) wNil)) wNil) wNil)) wNil))
def w_triangle_energy_1 : WS := (sSet (wCall c_slope [] (wCons (wVar 0) (wCons (wVar 1) (wCons (wVar 2) wNil))) wNil) (gTupD 2 (gConsD (gVar 6) (gConsD (gVar 7) gNilD))))
def w_triangle_energy_2 : WS := (sSeq w_triangle_energy_1 w_triangle_energy_0)
def w_triangle_energy_3 : WS := (sSet (wCall c_corners_at [] (wCons (wVar 0) (wCons (wVar 1) wNil)) wNil) (gTupD 3 (gConsD (gVar 3) (gConsD (gVar 4) (gConsD (gVar 5) gNilD)))))
def w_triangle_energy_4 : WS := (sSeq w_triangle_energy_3 w_triangle_energy_2)
def w_triangle_energy : WS := w_triangle_energy_4
def N_weights_of : List Str := ["mesh", "sums", "number", "a", "b", "c", "p", "q", "r", "one", "other", "more", "edge", "low", "high"]
def w_weights_of_0 : WS := (sRet (wN oTuple (wCons (wLc (wItems (wN oSortD (wCons (wVar 1) wNil))) (gTupD 2 (gConsD (gVar 13) (gConsD (gVar 14) gNilD))) tYesD (wTup (wCons (wVar 13) (wCons (wVar 14) (wCons (wCall c_half [] (wCons (w2 oDGet (wVar 1) (wTup (wCons (wVar 13) (wCons (wVar 14) wNil)))) wNil) wNil) wNil)))) [13, 14]) wNil)))
def w_weights_of_1 : WS := (sSet (wCall c_plus [] (wCons (wDGet (wVar 1) (wVar 12) (wC k_ZERO)) (wCons (wVar 11) wNil)) wNil) (gDSub (wVar 1) (wVar 12)))
def w_weights_of_2 : WS := (sSet (wTup (wCons (wN oMin (wCons (wVar 9) (wCons (wVar 10) wNil))) (wCons (wN oMax (wCons (wVar 9) (wCons (wVar 10) wNil))) wNil))) (gVar 12))
def w_weights_of_3 : WS := (sSeq w_weights_of_2 w_weights_of_1)
def w_weights_of_4 : WS := (sFor (wItems (wTup (wCons (wTup (wCons (wVar 3) (wCons (wVar 4) (wCons (wCall c_cotangent [] (wCons (wVar 8) (wCons (wVar 6) (wCons (wVar 7) wNil))) wNil) wNil)))) (wCons (wTup (wCons (wVar 4) (wCons (wVar 5) (wCons (wCall c_cotangent [] (wCons (wVar 6) (wCons (wVar 7) (wCons (wVar 8) wNil))) wNil) wNil)))) (wCons (wTup (wCons (wVar 5) (wCons (wVar 3) (wCons (wCall c_cotangent [] (wCons (wVar 7) (wCons (wVar 8) (wCons (wVar 6) wNil))) wNil) wNil)))) wNil))))) (gTupD 3 (gConsD (gVar 9) (gConsD (gVar 10) (gConsD (gVar 11) gNilD)))) w_weights_of_3)
def w_weights_of_5 : WS := (sSet (wCall c_corners_at [] (wCons (wVar 0) (wCons (wVar 2) wNil)) wNil) (gTupD 3 (gConsD (gVar 6) (gConsD (gVar 7) (gConsD (gVar 8) gNilD)))))
def w_weights_of_6 : WS := (sSeq w_weights_of_5 w_weights_of_4)
def w_weights_of_7 : WS := (sFor (wEnum (wCons (wFld "Mesh" ["points", "triangles"] 1 (wVar 0)) wNil)) (gTupD 2 (gConsD (gVar 2) (gConsD (gTupD 3 (gConsD (gVar 3) (gConsD (gVar 4) (gConsD (gVar 5) gNilD)))) gNilD))) w_weights_of_6)
def w_weights_of_8 : WS := (sSeq w_weights_of_7 w_weights_of_0)
def w_weights_of_9 : WS := (sSet wDNew (gVar 1))
def w_weights_of_10 : WS := (sSeq w_weights_of_9 w_weights_of_8)
def w_weights_of : WS := w_weights_of_10
def N_mixed_energy : List Str := ["mesh", "field", "other", "found", "low", "high", "more", "both"]
def w_mixed_energy_0 : WS := (sRet (wVar 3))
def w_mixed_energy_1 : WS := (sSet (wCall c_plus [] (wCons (wVar 3) (wCons (wCall c_times [] (wCons (wVar 6) (wCons (wVar 7) wNil)) wNil) wNil)) wNil) (gVar 3))
def w_mixed_energy_2 : WS := (sSet (wCall c_times [] (wCons (wCall c_minus [] (wCons (w2 oIdx (wVar 1) (wVar 5)) (wCons (w2 oIdx (wVar 1) (wVar 4)) wNil)) wNil) (wCons (wCall c_minus [] (wCons (w2 oIdx (wVar 2) (wVar 5)) (wCons (w2 oIdx (wVar 2) (wVar 4)) wNil)) wNil) wNil)) wNil) (gVar 7))
def w_mixed_energy_3 : WS := (sSeq w_mixed_energy_2 w_mixed_energy_1)
def w_mixed_energy_4 : WS := (sFor (wItems (wCall c_weights_of [] (wCons (wVar 0) wNil) wNil)) (gTupD 3 (gConsD (gVar 4) (gConsD (gVar 5) (gConsD (gVar 6) gNilD)))) w_mixed_energy_3)
def w_mixed_energy_5 : WS := (sSeq w_mixed_energy_4 w_mixed_energy_0)
def w_mixed_energy_6 : WS := (sSet (wC k_ZERO) (gVar 3))
def w_mixed_energy_7 : WS := (sSeq w_mixed_energy_6 w_mixed_energy_5)
def w_mixed_energy : WS := w_mixed_energy_7
def N_energy_by_triangles : List Str := ["mesh", "field", "found", "number"]
def w_energy_by_triangles_0 : WS := (sRet (wVar 2))
def w_energy_by_triangles_1 : WS := (sSet (wCall c_plus [] (wCons (wVar 2) (wCons (wCall c_triangle_energy [] (wCons (wVar 0) (wCons (wVar 3) (wCons (wVar 1) wNil))) wNil) wNil)) wNil) (gVar 2))
def w_energy_by_triangles_2 : WS := (sFor (wRange1 (wCons (wN oLen (wCons (wFld "Mesh" ["points", "triangles"] 1 (wVar 0)) wNil)) wNil)) (gVar 3) w_energy_by_triangles_1)
def w_energy_by_triangles_3 : WS := (sSeq w_energy_by_triangles_2 w_energy_by_triangles_0)
def w_energy_by_triangles_4 : WS := (sSet (wC k_ZERO) (gVar 2))
def w_energy_by_triangles_5 : WS := (sSeq w_energy_by_triangles_4 w_energy_by_triangles_3)
def w_energy_by_triangles : WS := w_energy_by_triangles_5
def N_energy : List Str := ["mesh", "field"]
def w_energy : WS := (sRet (wCall c_half [] (wCons (wCall c_mixed_energy [] (wCons (wVar 0) (wCons (wVar 1) (wCons (wVar 1) wNil))) wNil) wNil) wNil))
def N_law : List Str := ["_law_script", "_law_deal", "_law_mesh_here", "_law_low_here", "_law_field", "_law_area", "_law_due", "_law_at", "_law_bottom", "_law_spots", "_law_triples", "_law_points", "_law_triangles", "_law_start", "_law_right", "_law_up", "_law_inner_here", "_law_total", "_law_unit", "_law_flow", "_law_a", "_law_b", "_law_c", "_law_other_here"]
def w_law_0 : WS := (sRet (wAndV (w2 oEq (wVar 17) (wTup (wCons (wC (.int 0)) (wCons (wC (.int 1)) wNil)))) (w2 oEq (wCall c_mixed_energy [] (wCons (wVar 2) (wCons (wVar 4) (wCons (wVar 4) wNil))) wNil) (wCall c__law_low [] (wCons (w2 oMul (wC (.int 2)) (w2 oIdx (wVar 6) (wC (.int 0)))) (wCons (w2 oIdx (wVar 6) (wC (.int 1))) wNil)) wNil))))
def w_law_1 : WS := (sRet (wC (.bl false)))
def w_law_2 : WS := (sIf (wAndB (wBl (w2 oIn (wVar 7) (wVar 16))) (wBl (w2 oNe (wVar 19) (wTup (wCons (wC (.int 0)) (wCons (wC (.int 1)) wNil)))))) w_law_1 sSkip)
def w_law_3 : WS := (sSet (wCall c__law_plus [] (wCons (wVar 17) (wCons (wVar 19) wNil)) wNil) (gVar 17))
def w_law_4 : WS := (sSeq w_law_3 w_law_2)
def w_law_5 : WS := (sSet (wCall c_mixed_energy [] (wCons (wVar 2) (wCons (wVar 4) (wCons (wVar 18) wNil))) wNil) (gVar 19))
def w_law_6 : WS := (sSeq w_law_5 w_law_4)
def w_law_7 : WS := (sRet (wC (.bl false)))
def w_law_8 : WS := (sIf (wBl (w2 oNe (wCall c_unit_field [1, 0] wNil (wCons (wVar 7) (wCons (wVar 2) wNil))) (wVar 18))) w_law_7 sSkip)
def w_law_9 : WS := (sSeq w_law_8 w_law_6)
def w_law_10 : WS := (sRet (wC (.bl false)))
def w_law_11 : WS := (sIf (wNotB (wTru (wCall c__law_same [] (wCons (wVar 18) (wCons (wN oTuple (wCons (wLc (wRange1 (wCons (wN oLen (wCons (wVar 9) wNil)) wNil)) (gVar 23) tYesD (wIf (wBl (w2 oEq (wVar 23) (wVar 7))) (wTup (wCons (wC (.int 1)) (wCons (wC (.int 1)) wNil))) (wTup (wCons (wC (.int 0)) (wCons (wC (.int 1)) wNil)))) [23]) wNil)) wNil)) wNil))) w_law_10 sSkip)
def w_law_12 : WS := (sSeq w_law_11 w_law_9)
def w_law_13 : WS := (sSet (wCall c_unit_field [] (wCons (wVar 2) (wCons (wVar 7) wNil)) wNil) (gVar 18))
def w_law_14 : WS := (sSeq w_law_13 w_law_12)
def w_law_15 : WS := (sFor (wRange1 (wCons (wN oLen (wCons (wVar 9) wNil)) wNil)) (gVar 7) w_law_14)
def w_law_16 : WS := (sSeq w_law_15 w_law_0)
def w_law_17 : WS := (sPar2 16 17 (wCons (wCall c__law_inner [] (wCons (wVar 9) (wCons (wVar 10) wNil)) wNil) (wCons (wTup (wCons (wC (.int 0)) (wCons (wC (.int 1)) wNil))) wNil)))
def w_law_18 : WS := (sSeq w_law_17 w_law_16)
def w_law_19 : WS := (sRet (wC (.bl false)))
def w_law_20 : WS := (sIf (wOrB (wNotB (wTru (wCall c__law_same [] (wCons (wCall c_energy [] (wCons (wVar 2) (wCons (wVar 4) wNil)) wNil) (wCons (wVar 6) wNil)) wNil))) (wBl (w2 oNe (wCall c_energy_by_triangles [] (wCons (wVar 2) (wCons (wVar 4) wNil)) wNil) (wVar 6)))) w_law_19 sSkip)
def w_law_21 : WS := (sSeq w_law_20 w_law_18)
def w_law_22 : WS := (sSet (wCall c__law_low [] (wCons (w2 oMul (w2 oAdd (w2 oMul (wVar 14) (wVar 14)) (w2 oMul (wVar 15) (wVar 15))) (wVar 5)) (wCons (w2 oMul (w2 oMul (w2 oMul (w2 oMul (wC (.int 4)) (wVar 3)) (wVar 3)) (wVar 8)) (wVar 8)) wNil)) wNil) (gVar 6))
def w_law_23 : WS := (sSeq w_law_22 w_law_21)
def w_law_24 : WS := (sSet (wN oSum (wCons (wLc (wItems (wVar 10)) (gTupD 3 (gConsD (gVar 20) (gConsD (gVar 21) (gConsD (gVar 22) gNilD)))) tYesD (wCall c__law_cross [] (wCons (w2 oIdx (wVar 9) (wVar 20)) (wCons (w2 oIdx (wVar 9) (wVar 21)) (wCons (w2 oIdx (wVar 9) (wVar 22)) wNil))) wNil) [20, 21, 22]) wNil)) (gVar 5))
def w_law_25 : WS := (sSeq w_law_24 w_law_23)
def w_law_26 : WS := (sSet (wCall c_linear_field [] (wCons (wVar 2) (wCons (wCall c__law_low [] (wCons (wVar 13) (wCons (wVar 3) wNil)) wNil) (wCons (wCall c__law_low [] (wCons (wVar 14) (wCons (wVar 3) wNil)) wNil) (wCons (wCall c__law_low [] (wCons (wVar 15) (wCons (wVar 3) wNil)) wNil) wNil)))) wNil) (gVar 4))
def w_law_27 : WS := (sSeq w_law_26 w_law_25)
def w_law_28 : WS := (sPar3 13 14 15 (wCons (w2 oSub (wCall c__law_any [] (wCons (wVar 1) (wCons (wC (.int 41)) wNil)) wNil) (wC (.int 20))) (wCons (wCall c__law_of [] (wCons (wVar 1) (wCons (wLst (wCons (wC (.int 0)) (wCons (wC (.int 1)) (wCons (w2 oSub (wCall c__law_any [] (wCons (wVar 1) (wCons (wC (.int 21)) wNil)) wNil) (wC (.int 10))) wNil)))) wNil)) wNil) (wCons (w2 oSub (wCall c__law_any [] (wCons (wVar 1) (wCons (wC (.int 21)) wNil)) wNil) (wC (.int 10))) wNil))))
def w_law_29 : WS := (sSeq w_law_28 w_law_27)
def w_law_30 : WS := (sSet (w2 oAdd (wC (.int 1)) (wCall c__law_any [] (wCons (wVar 1) (wCons (wC (.int 6)) wNil)) wNil)) (gVar 3))
def w_law_31 : WS := (sSeq w_law_30 w_law_29)
def w_law_32 : WS := (sSet (wMk "Mesh" ["points", "triangles"] (wCons (wVar 11) (wCons (wVar 12) wNil))) (gVar 2))
def w_law_33 : WS := (sSeq w_law_32 w_law_31)
def w_law_34 : WS := (sSet (wCall c__law_made [] (wCons (wVar 9) (wCons (wVar 10) (wCons (wVar 8) wNil))) wNil) (gTupD 2 (gConsD (gVar 11) (gConsD (gVar 12) gNilD))))
def w_law_35 : WS := (sSeq w_law_34 w_law_33)
def w_law_36 : WS := (sSet (wCall c__law_mesh [] (wCons (wVar 1) wNil) wNil) (gTupD 3 (gConsD (gVar 8) (gConsD (gVar 9) (gConsD (gVar 10) gNilD)))))
def w_law_37 : WS := (sSeq w_law_36 w_law_35)
def w_law_38 : WS := (sSet (wCall c__law_source [] (wCons (wVar 0) wNil) wNil) (gVar 1))
def w_law_39 : WS := (sSeq w_law_38 w_law_37)
def w_law : WS := w_law_39
theorem does_fraction : Does c_fraction w_fraction N_fraction 2 := by
  rintro ds S P X ⟨t, b, rfl, ht, hb, h1, h0⟩
  refine ⟨rfl, ?_⟩
  show w_fraction_8 _ _ [some (.int t), some (.int b), none] S
  by_cases hz : b = 0
  · simp only [w_fraction_8, w_fraction_7, w_fraction_6, xseq, xsif, xbl, x2, v1, xc, oeqI, xraise, xcons, xnil]
    rw [if_pos (decide_eq_true hz)]
    exact ⟨S, Sub.refl _, h0 hz⟩
  simp only [w_fraction_8, w_fraction_7, xseq, xsif, xbl, x2, v1, xc, oeqI]
  rw [if_neg (by simpa using hz)]
  simp only [xskip, w_fraction_5, w_fraction_4, xseq, xsif, xbl, x2, v1, xc, ocmpI]
  have last : ∀ t' b' : Int, 0 < b' → Bd 8000 b' → Rat.divInt t' b' = Rat.divInt t b → w_fraction_2 { nx := fun _ S' => shrP P .non S', rt := shrP P } (fun x _ S' => shrX X x S') [some (.int t'), some (.int b'), none] S := fun t' b' hp hs he => by
    have gp : (0 : Int) < ((Nat.gcd t'.natAbs b'.natAbs : Nat) : Int) := Int.ofNat_lt.mpr (Nat.gcd_pos_of_pos_right _ (by omega))
    have gs : Bd 8000 ((Nat.gcd t'.natAbs b'.natAbs : Nat) : Int) := hs.le (by
      rw [Int.natAbs_natCast]
      exact Nat.le_of_dvd (by omega) (Nat.gcd_dvd_right _ _))
    simp only [w_fraction_2, w_fraction_1, w_fraction_0, xseq, xset, xn, xcons, xnil, v0, v1, ogcdI, g2, xret, xtup, x2, v2, odivI]
    refine ⟨gs.cdiv gp (by decide), gs.cdiv gp (by decide), by rw [sizeLine_eq]; exact (by decide : 2 ≤ 16777216), S, Sub.refl _, ?_⟩
    rw [← frac_low t' b' hp, he]
    exact h1 hz
  by_cases hn : b < 0
  · rw [if_pos (decide_eq_true hn)]
    simp only [w_fraction_3, xpar2, xcons, xnil, x1, v0, v1, onegI]
    exact last (-t) (-b) (by omega) hb.neg (by rw [Rat.neg_divInt_neg])
  · rw [if_neg (by simpa using hn)]
    exact last t b (by omega) hb rfl
theorem does__law_source : Does c__law_source w__law_source N__law_source 1 := by
  rintro ds S P X ⟨ns, rfl, hl, h⟩
  refine ⟨rfl, ?_⟩
  show w__law_source_7 _ _ [some (D0 ns), none, none, none] S
  have l1 : (ns.map D.int).length ≤ 63 := by rw [List.length_map]; exact hl
  simp only [w__law_source_7, w__law_source_6, xseq, xset]
  refine lc_go (S1 := S) (ds := ns.map D.int) (fun d => match d with
    | .int i => some (.int (i.natAbs : Int))
    | _ => none) (fun Q hq => ?_) (le_line (by omega)) (fun p hp d hd acc R hR => ?_) ?_
  · simp only [xitems, xslice, v0, xc]
    rw [show ((63 : Int)) = ((63 : Nat) : Int) from rfl, oslice_all l1]
    exact hq
  · obtain ⟨i, _, rfl⟩ := List.mem_map.mp hd
    simp only [wip3, g3, xn, xcons, xnil, v3, ointI, oabsI, abs_nat]
    exact hR
  have ef : (ns.map D.int).filterMap (fun d => match d with
    | .int i => some (.int (i.natAbs : Int))
    | _ => none) = (ns.map fun i => (i.natAbs : Int)).map D.int := by
    rw [List.filterMap_map, List.map_map]
    exact List.filterMap_eq_map (f := fun i : Int => D.int (i.natAbs : Int)) ▸ rfl
  rw [ef]
  generalize hms : (ns.map fun i => (i.natAbs : Int)) = ms
  have hm0 : ∀ m ∈ ms, 0 ≤ m := fun m hm => by
    rw [← hms] at hm
    obtain ⟨i, _, rfl⟩ := List.mem_map.mp hm
    omega
  have hml : ms.length ≤ 63 := by rw [← hms, List.length_map]; exact hl
  simp only [g1, w__law_source_5, w__law_source_4, xseq, xset, xc, g2, w__law_source_3, w__law_source_2, xfor, xitems, v1]
  have loop : ∀ (l : List Int), (∀ m ∈ l, 0 ≤ m) → ∀ (b : Int) (z : Option D), 0 ≤ b → b < 2147483647 → (∀ (c : Int) (z : Option D), 0 ≤ c → c < 2147483647 → w__law_source_0 { nx := fun _ S' => shrP P .non S', rt := shrP P } (fun x _ S' => shrX X x S') [some (D0 ns), some (.lst (ms.map D.int)), some (.int c), z] S) →
      loopD (gVar 3) w__law_source_1 { nx := fun e s => w__law_source_0 { nx := fun _ S' => shrP P .non S', rt := shrP P } (fun x _ S' => shrX X x S') e s, rt := shrP P } (fun x _ S' => shrX X x S') (l.map D.int) [some (D0 ns), some (.lst (ms.map D.int)), some (.int b), z] S := by
    intro l
    induction l with
    | nil => intro _ b z b0 b1 hq; exact hq b z b0 b1
    | cons m l ih =>
      intro hm b z b0 b1 hq
      have hb1 : Bd 31 b := by unfold Bd; omega
      have hb2 : Bd 16 48271 := by unfold Bd; decide
      have t1 : (0 : Int) < 2147483647 := by decide
      have t2 : (0 : Int) < 2147483549 := by decide
      simp only [List.map_cons, xloop, g3, w__law_source_1, xset, x2, xn, xcons, xnil, v2, v3, xc, omulI, oaddI, omodI, ointI, g2]
      exact ⟨hb1.cmul hb2 (by decide), t2, t1, ih (fun k hk => hm k (List.mem_cons_of_mem _ hk)) _ _ (Int.emod_nonneg _ (by decide)) (Int.emod_lt_of_pos _ t1) hq⟩
  refine loop ms hm0 _ none (by decide) (by decide) fun c z c0 c1 => ?_
  simp only [w__law_source_0, xret, xnew, xcons, xrevN]
  refine lc_go (S1 := S) (ds := ms.map D.int) (fun d => match d with
    | .int i => if 1000000000000000000 ≤ i then some (.int i) else none
    | _ => none) (fun Q hq => ?_) (le_line (by rw [List.length_map]; omega)) (fun p hp d hd acc R hR => ?_) ?_
  · simp only [xitems, v1]
    exact hq
  · obtain ⟨i, _, rfl⟩ := List.mem_map.mp hd
    have p18 : (10 : Int) ^ (18 : Int).toNat = 1000000000000000000 := by decide
    simp only [wip3, g3, xbl, x2, v3, xc, opowI, p18, ocmpI]
    refine ⟨⟨by decide, by decide, by decide⟩, ?_⟩
    by_cases hi : 1000000000000000000 ≤ i
    · simp only [hi, if_true, decide_true] at hR ⊢
      exact hR
    · simp only [hi, if_false, decide_false, Bool.false_eq_true] at hR ⊢
      exact hR
  have ef2 : (ms.map D.int).filterMap (fun d => match d with
    | .int i => if 1000000000000000000 ≤ i then some (.int i) else none
    | _ => none) = (ms.filter fun i => decide (1000000000000000000 ≤ i)).map D.int := by
    clear loop ef h hml hms l1
    induction ms with
    | nil => rfl
    | cons m l ih =>
      have ih := ih fun k hk => hm0 k (List.mem_cons_of_mem _ hk)
      by_cases hi : 1000000000000000000 ≤ m
      · simp only [List.map_cons, List.filterMap_cons, List.filter_cons, hi, if_true, decide_true, ih]
      · simp only [List.map_cons, List.filterMap_cons, List.filter_cons, hi, if_false, decide_false, Bool.false_eq_true, ih]
  rw [ef2]
  show ∀ p, S p = none → _
  intro q hq
  simp only [v2, xnil]
  refine ⟨two_line, fun p hp => ?_⟩
  have npq : q ≠ p := fun z => by
    rw [z, sput_at] at hp
    cases hp
  have hp0 : S p = none := by rw [← hp, sput_off (Ne.symm npq)]
  have hfl := List.length_filter_le (fun i => decide (1000000000000000000 ≤ i)) ms
  refine ⟨_, Sub.refl _, h p q _ hp0 hq ⟨(ms.filter fun i => decide (1000000000000000000 ≤ i)).reverse, c, ?_⟩ ((Fr.refl S).putQ.putP)⟩
  exact ⟨sput_at, by rw [sput_off npq, sput_at, ← List.map_reverse], npq, by rw [List.length_reverse]; omega, fun n hn => hm0 n (List.mem_filter.mp (List.mem_reverse.mp hn)).1, c0, c1⟩
theorem any_while {E : EndD} {Y : XS} {p q : Addr} {b : Int} {S0 : Sto} {e1 e2 : Option D} (hnx : ∀ ns S, Dl S p q ns b → Fr p q S0 S → E.nx [some (.ref p), e1, e2] S) : ∀ (n : Nat) (ns : List Int) (S : Sto), ns.length ≤ n → Dl S p q ns b → Fr p q S0 S →
    whileD (wAndB (wBl (w2 oNe (w2 oIdx (wVar 0) (wC (.int 0))) (wLst wNil))) (wBl (w2 oEq (w2 oIdx (w2 oIdx (wVar 0) (wC (.int 0))) (w1 oNeg (wC (.int 1)))) (wC (.int 0))))) w__law_any_10 E Y (n + 1) [some (.ref p), e1, e2] S := by
  intro n
  induction n with
  | zero =>
    intro ns S hl h fr
    have e : ns = [] := List.length_eq_zero_iff.mp (by omega)
    subst e
    unfold whileD
    simp only [xandB, xbl, x2, v0, xc, idx_at0 h.sp, xlst, xnil, List.length_nil, Nat.zero_le, true_and, one_nil h.sq]
    exact hnx _ _ h fr
  | succ n ih =>
    intro ns S hl h fr
    unfold whileD
    simp only [xandB, xbl, x2, v0, xc, idx_at0 h.sp, xlst, xnil, List.length_nil, Nat.zero_le, true_and, one_nil h.sq]
    rcases List.eq_nil_or_concat ns with e | ⟨init, k, e⟩
    · subst e
      exact hnx _ _ h fr
    · have e : ns = init ++ [k] := by simpa using e
      subst e
      rw [if_pos (by simp)]
      simp only [x1, xc, onegI, idx_last h.sq, oeqI]
      by_cases hk : k = 0
      · rw [if_pos (decide_eq_true hk)]
        have hq : S q = some (.lst (init.map D.int ++ [.int k])) := by rw [h.sq, List.map_append]; rfl
        simp only [w__law_any_10, xexpr, xpop, x2, v0, xc, idx_at0 h.sp, pop_at hq]
        rw [List.length_append, List.length_singleton] at hl
        exact ih init _ (by omega) (h.putQ (by have := h.len; rw [List.length_append] at this; omega) fun m hm => h.nn m (List.mem_append_left _ hm)) fr.putQ
      · rw [if_neg (by simpa using hk)]
        exact hnx _ _ h fr
theorem does__law_any : Does c__law_any w__law_any N__law_any 2 := by
  rintro ds S P X ⟨p, q, k, rfl, ⟨ns, b, hd⟩, hp, hb, h⟩
  refine ⟨rfl, ?_⟩
  show w__law_any_12 _ _ [some (.ref p), some (.int k), none] S
  simp only [w__law_any_12, w__law_any_11, xseq]
  refine ⟨_, any_while (S0 := S) (fun ns S1 hd fr => ?_) _ ns S (Nat.le_refl _) hd (Fr.refl S)⟩
  simp only [w__law_any_9, w__law_any_8, xseq, xsif, xbl, x2, v0, xc, idx_at0 hd.sp, xlst, xnil, List.length_nil, Nat.zero_le, true_and, one_nil hd.sq]
  rcases List.eq_nil_or_concat ns with e | ⟨init, m, e⟩
  · subst e
    rw [if_neg (by simp)]
    have hb1 : Bd 31 b := by have := hd.lo; have := hd.hi; unfold Bd; omega
    have hb2 : Bd 16 48271 := by unfold Bd; decide
    have ht : (0 : Int) < 2147483647 := by decide
    have r0 := Int.emod_nonneg (b * 48271 + 41) (b := 2147483647) (by decide)
    have r1 := Int.emod_lt_of_pos (b * 48271 + 41) ht
    have hd2 := hd.putB r0 r1
    simp only [xskip, w__law_any_2, w__law_any_1, xseq, xset, x2, xn, xcons, xnil, v0, v1, xc, idx_at1 hd.sp, omulI, oaddI, ointI, omodI, xsub, set_at1 hd.sp, w__law_any_0, xret, idx_at1 hd2.sp, odivI]
    refine ⟨hb1.cmul hb2 (by decide), ht, ⟨by decide, by decide⟩, hp, _, Sub.refl _, h _ _ (Int.emod_nonneg _ (by omega)) (Int.emod_lt_of_pos _ hp) hd2.deal fr.putP⟩
  · have e : ns = init ++ [m] := by simpa using e
    subst e
    rw [if_pos (by simp)]
    have hq : S1 q = some (.lst (init.map D.int ++ [.int m])) := by rw [hd.sq, List.map_append]; rfl
    have hl : init.length + 1 ≤ 64 := by have := hd.len; rw [List.length_append, List.length_singleton] at this; exact this
    have m0 : 0 ≤ m := hd.nn m (by simp)
    have hd1 : Dl (sput S1 q (.lst (init.map D.int))) p q init b := hd.putQ (by omega) fun j hj => hd.nn j (List.mem_append_left _ hj)
    have hd2 : Dl (sput (sput S1 q (.lst (init.map D.int))) q (.lst ((init ++ [m / k]).map D.int))) p q (init ++ [m / k]) b := hd1.putQ (by rw [List.length_append, List.length_singleton]; exact hl) fun j hj => by
      rcases List.mem_append.mp hj with z | z
      · exact hd1.nn j z
      · rw [List.mem_singleton.mp z]; exact Int.ediv_nonneg m0 (by omega)
    simp only [w__law_any_7, w__law_any_6, xseq, xset, xn, xcons, xnil, xpop, x2, v0, v1, xc, idx_at0 hd.sp, pop_at hq, ointI, g2, w__law_any_5, w__law_any_4, xexpr, xapp, idx_at0 hd1.sp, isl hd1.sq, v2, odivI, app_at hd1.sq, w__law_any_3, xret, omodI, true_and]
    refine ⟨hb.cdiv hp (by decide), ?_, hp, _, Sub.refl _, h _ _ (Int.emod_nonneg _ (by omega)) (Int.emod_lt_of_pos _ hp) ?_ fr.putQ.putQ⟩
    · rw [List.length_map]; exact le_line (by omega)
    · have e2 : init.map D.int ++ [.int (m / k)] = (init ++ [m / k]).map D.int := by rw [List.map_append]; rfl
      rw [e2]
      exact hd2.deal
theorem common_step (E : EndD) (Y : XS) (S : Sto) (x y : Nat) (z : Option D) (d : D) (ds : List D) :
    loopD (gVar 2) w__law_common_3 E Y (d :: ds) [some (.int x), some (.int y), z] S = if y = 0 then E.nx [some (.int x), some (.int y), some d] S else loopD (gVar 2) w__law_common_3 E Y ds [some (.int y), some (.int ((x % y : Nat) : Int)), some d] S := by
  simp only [xloop, g2, w__law_common_3, w__law_common_2, xseq, xsif, xbl, x2, v1, xc, oeqI]
  by_cases h : y = 0
  · rw [if_pos h, if_pos (decide_eq_true (by omega))]
    rfl
  · rw [if_neg h, if_neg (by simpa using h)]
    simp only [xskip, w__law_common_1, xpar2, xcons, xnil, v0, v1, x2, xn, ointI, omodI]
    have hp : (0 : Int) < (y : Int) := by omega
    have e : ((x : Int) % (y : Int)) = ((x % y : Nat) : Int) := (Int.natCast_emod x y).symm
    rw [e]
    simp only [hp, true_and]
    rfl
theorem common_end (E : EndD) (Y : XS) (S : Sto) (g : Nat) (hq : ∀ z : Option D, E.nx [some (.int (g : Int)), some (.int ((0 : Nat) : Int)), z] S) : ∀ (k x y : Nat) (ds : List D) (z : Option D), y < 2 ^ k → Nat.gcd x y = g → 2 * k + 1 ≤ ds.length → loopD (gVar 2) w__law_common_3 E Y ds [some (.int x), some (.int y), z] S
  | 0, x, y, ds, z, hy, hg, hl => by
    have y0 : y = 0 := by simpa using hy
    subst y0
    match ds, hl with
    | d :: ds, _ =>
      rw [common_step, if_pos rfl]
      rw [Nat.gcd_zero_right] at hg
      subst hg
      exact hq _
  | k + 1, x, y, ds, z, hy, hg, hl => by
    match ds, hl with
    | d :: d2 :: ds, hl =>
      rw [common_step]
      by_cases h : y = 0
      · rw [if_pos h]
        subst h
        rw [Nat.gcd_zero_right] at hg
        subst hg
        exact hq _
      · rw [if_neg h, common_step]
        have hr : x % y < y := Nat.mod_lt _ (by omega)
        have hg2 : Nat.gcd y (x % y) = g := by rw [Nat.gcd_comm, ← Nat.gcd_rec, Nat.gcd_comm]; exact hg
        by_cases h2 : x % y = 0
        · rw [if_pos h2]
          rw [h2, Nat.gcd_zero_right] at hg2
          subst hg2
          rw [h2]
          exact hq _
        · rw [if_neg h2]
          refine common_end E Y S g hq k _ _ ds _ ?_ (by rw [Nat.gcd_comm, ← Nat.gcd_rec, Nat.gcd_comm]; exact hg2) (by simp only [List.length_cons] at hl; omega)
          have l1 : y % (x % y) < x % y := Nat.mod_lt _ (by omega)
          have l2 : y % (x % y) + x % y ≤ y := by
            have e := Nat.mod_add_div y (x % y)
            have : 1 ≤ y / (x % y) := Nat.div_pos (by omega) (by omega)
            have := Nat.mul_le_mul_left (x % y) this
            omega
          rw [Nat.pow_succ] at hy
          omega
theorem does__law_common : Does c__law_common w__law_common N__law_common 2 := by
  rintro ds S P X ⟨a, b, rfl, hb, h⟩
  refine ⟨rfl, ?_⟩
  show w__law_common_7 _ _ [some (.int a), some (.int b), none] S
  simp only [w__law_common_7, w__law_common_6, xseq, xpar2, xcons, xnil, xn, v0, v1, ointI, oabsI, abs_nat]
  show w__law_common_5 _ _ [some (.int (a.natAbs : Int)), some (.int (b.natAbs : Int)), none] S
  simp only [w__law_common_5, xseq, w__law_common_4, xfor, xrange]
  refine ⟨by decide, common_end _ _ S _ (fun z => ?_) 4000 _ _ _ _ hb rfl (by rw [ints_len]; decide)⟩
  simp only [w__law_common_0, xret, v0]
  exact ⟨S, Sub.refl _, h⟩
theorem does__law_same : Does c__law_same w__law_same N__law_same 2 := by
  rintro ds S P X ⟨d, rfl, hs, h⟩
  refine ⟨rfl, ?_⟩
  show w__law_same _ _ [some d, some d] S
  simp only [w__law_same, xret, x2, xn, xcons, xnil, v0, v1, orepr hs, oeqS]
  refine ⟨S, Sub.refl _, ?_⟩
  simpa using h
theorem does_plus : Does c_plus w_plus N_plus 2 := by
  rintro ds S P X ⟨p, q, rfl, hp, hq, h⟩
  refine ⟨rfl, ?_⟩
  show w_plus _ _ [some (DQ p), some (DQ q)] S
  obtain ⟨p1, p2⟩ := (show Bd 2025 p.num ∧ Bd 2025 (p.den : Int) from hp)
  obtain ⟨q1, q2⟩ := (show Bd 2025 q.num ∧ Bd 2025 (q.den : Int) from hq)
  simp only [w_plus, xret, xcall, xcons, xnil, x2, v0, v1, xc, oidxQ0, oidxQ1, omulI, oaddI]
  refine ⟨p1.cmul q2 (by decide), q1.cmul p2 (by decide), p2.cmul q2 (by decide), _, _, rfl, ((p1.mul q2).add (q1.mul p2)).mono (by decide), (p2.mul q2).mono (by decide), fun _ => ⟨S, Sub.refl _, ?_⟩, fun z => absurd z (Int.mul_ne_zero (den_ne p) (den_ne q))⟩
  rw [← q_add]; exact h
theorem does_minus : Does c_minus w_minus N_minus 2 := by
  rintro ds S P X ⟨p, q, rfl, hp, hq, h⟩
  refine ⟨rfl, ?_⟩
  show w_minus _ _ [some (DQ p), some (DQ q)] S
  obtain ⟨p1, p2⟩ := (show Bd 2025 p.num ∧ Bd 2025 (p.den : Int) from hp)
  obtain ⟨q1, q2⟩ := (show Bd 2025 q.num ∧ Bd 2025 (q.den : Int) from hq)
  simp only [w_minus, xret, xcall, xcons, xnil, x2, v0, v1, xc, oidxQ0, oidxQ1, omulI, osubI]
  refine ⟨p1.cmul q2 (by decide), q1.cmul p2 (by decide), p2.cmul q2 (by decide), _, _, rfl, ((p1.mul q2).sub (q1.mul p2)).mono (by decide), (p2.mul q2).mono (by decide), fun _ => ⟨S, Sub.refl _, ?_⟩, fun z => absurd z (Int.mul_ne_zero (den_ne p) (den_ne q))⟩
  rw [← q_sub]; exact h
theorem does_times : Does c_times w_times N_times 2 := by
  rintro ds S P X ⟨p, q, rfl, hp, hq, h⟩
  refine ⟨rfl, ?_⟩
  show w_times _ _ [some (DQ p), some (DQ q)] S
  obtain ⟨p1, p2⟩ := (show Bd 2025 p.num ∧ Bd 2025 (p.den : Int) from hp)
  obtain ⟨q1, q2⟩ := (show Bd 2025 q.num ∧ Bd 2025 (q.den : Int) from hq)
  simp only [w_times, xret, xcall, xcons, xnil, x2, v0, v1, xc, oidxQ0, oidxQ1, omulI]
  refine ⟨p1.cmul q1 (by decide), p2.cmul q2 (by decide), _, _, rfl, (p1.mul q1).mono (by decide), (p2.mul q2).mono (by decide), fun _ => ⟨S, Sub.refl _, ?_⟩, fun z => absurd z (Int.mul_ne_zero (den_ne p) (den_ne q))⟩
  rw [← q_mul]; exact h
theorem does_over : Does c_over w_over N_over 2 := by
  rintro ds S P X ⟨p, q, rfl, hp, hq, h, hx⟩
  refine ⟨rfl, ?_⟩
  show w_over _ _ [some (DQ p), some (DQ q)] S
  obtain ⟨p1, p2⟩ := (show Bd 2025 p.num ∧ Bd 2025 (p.den : Int) from hp)
  obtain ⟨q1, q2⟩ := (show Bd 2025 q.num ∧ Bd 2025 (q.den : Int) from hq)
  simp only [w_over, xret, xcall, xcons, xnil, x2, v0, v1, xc, oidxQ0, oidxQ1, omulI]
  refine ⟨p1.cmul q2 (by decide), p2.cmul q1 (by decide), _, _, rfl, (p1.mul q2).mono (by decide), (p2.mul q1).mono (by decide), fun z => ⟨S, Sub.refl _, ?_⟩, fun z => ⟨S, Sub.refl _, ?_⟩⟩
  · rw [← q_div]
    exact h fun e => z (by rw [e]; exact Int.mul_zero _)
  · refine hx (Rat.num_eq_zero.mp ?_)
    rcases Int.mul_eq_zero.mp z with e | e
    · exact absurd e (den_ne p)
    · exact e
theorem does_half : Does c_half w_half N_half 1 := by
  rintro ds S P X ⟨q, rfl, hq, h⟩
  refine ⟨rfl, ?_⟩
  show w_half _ _ [some (DQ q)] S
  obtain ⟨q1, q2⟩ := (show Bd 2025 q.num ∧ Bd 2025 (q.den : Int) from hq)
  simp only [w_half, xret, xcall, xcons, xnil, x2, v0, xc, oidxQ0, oidxQ1, omulI]
  have hd := den_pos q
  refine ⟨bd2.cmul q2 (by decide), _, _, rfl, q1.mono (by decide), (bd2.mul q2).mono (by decide), fun z => ⟨S, Sub.refl _, ?_⟩, fun z => absurd z (by omega)⟩
  rw [← q_half]; exact h
theorem does__law_of : Does c__law_of w__law_of N__law_of 2 := by
  rintro ds S P X ⟨p, q, es, rfl, hd, hne, hl, h⟩
  refine ⟨rfl, ?_⟩
  show w__law_of _ _ [some (.ref p), some (.lst es)] S
  have hpos : (0 : Int) < (es.length : Nat) := by have := List.length_pos_iff.mpr hne; omega
  have el : ∀ (S : Sto) (P : PD), oLen [.lst es] S P = P (.int (es.length : Nat)) S := fun S P => rfl
  simp only [w__law_of, xret, x2, v1, v0, xcall, xcons, xnil, xn, el]
  exact ⟨p, q, _, rfl, hd, hpos, bd_len hl, fun r S' h0 h1 hd' fr => idx_any h0 h1 fun d hm => ⟨S', Sub.refl _, h d hm S' hd' fr⟩⟩
theorem does__law_low : Does c__law_low w__law_low N__law_low 2 := by
  rintro ds S P X ⟨t, b, rfl, hb, hp, h⟩
  refine ⟨rfl, ?_⟩
  show w__law_low_2 _ _ [some (.int t), some (.int b), none] S
  have gp : (0 : Int) < ((Nat.gcd t.natAbs b.natAbs : Nat) : Int) := Int.ofNat_lt.mpr (Nat.gcd_pos_of_pos_right _ (by omega))
  have gs : Bd 4000 ((Nat.gcd t.natAbs b.natAbs : Nat) : Int) := hb.le (by
    rw [Int.natAbs_natCast]
    exact Nat.le_of_dvd (by omega) (Nat.gcd_dvd_right _ _))
  simp only [w__law_low_2, w__law_low_1, xseq, xset, xcall, xcons, xnil, v0, v1, g2]
  refine ⟨t, b, rfl, hb, ?_⟩
  simp only [w__law_low_0, xret, xtup, xcons, xnil, x2, xn, v0, v1, v2, ointI, odivI]
  refine ⟨gs.cdiv gp (by decide), gs.cdiv gp (by decide), two_line, S, Sub.refl _, ?_⟩
  rw [← frac_low t b hp]
  exact h
theorem does__way : Does c__way w__way N__way 2 := by
  rintro ds S P X ⟨a, b, rfl, ha, hb, h⟩
  refine ⟨rfl, ?_⟩
  show w__way _ _ [some (DP a), some (DP b)] S
  simp only [w__way, xret, xtup, xcall, xcons, xnil, x2, v0, v1, xc, iP0, iP1]
  refine k_minus (hb.1.mono (by decide)) (ha.1.mono (by decide)) (k_minus (hb.2.mono (by decide)) (ha.2.mono (by decide)) ⟨two_line, S, Sub.refl _, h⟩)
theorem does__cross : Does c__cross w__cross N__cross 2 := by
  rintro ds S P X ⟨a, b, rfl, ha, hb, h⟩
  refine ⟨rfl, ?_⟩
  show w__cross _ _ [some (DP a), some (DP b)] S
  simp only [w__cross, xret, xcall, xcons, xnil, x2, v0, v1, xc, iP0, iP1]
  exact k_times (ha.1.mono (by decide)) (hb.2.mono (by decide)) (k_times (ha.2.mono (by decide)) (hb.1.mono (by decide)) (k_minus ((ha.1.mul hb.2).mono (by decide)) ((ha.2.mul hb.1).mono (by decide)) ⟨S, Sub.refl _, h⟩))
theorem does__along : Does c__along w__along N__along 2 := by
  rintro ds S P X ⟨a, b, rfl, ha, hb, h⟩
  refine ⟨rfl, ?_⟩
  show w__along _ _ [some (DP a), some (DP b)] S
  simp only [w__along, xret, xcall, xcons, xnil, x2, v0, v1, xc, iP0, iP1]
  exact k_times (ha.1.mono (by decide)) (hb.1.mono (by decide)) (k_times (ha.2.mono (by decide)) (hb.2.mono (by decide)) (k_plus ((ha.1.mul hb.1).mono (by decide)) ((ha.2.mul hb.2).mono (by decide)) ⟨S, Sub.refl _, h⟩))
theorem does_doubled_area : Does c_doubled_area w_doubled_area N_doubled_area 3 := by
  rintro ds S P X ⟨a, b, c, rfl, ha, hb, hc, h⟩
  refine ⟨rfl, ?_⟩
  show w_doubled_area _ _ [some (DP a), some (DP b), some (DP c)] S
  simp only [w_doubled_area, xret, xcall, xcons, xnil, v0, v1, v2]
  have m : ∀ {x : Rat × Rat}, SzP 200 x → SzP 1000 x := fun h => SzP_mono h (by decide)
  exact k__way (m ha) (m hb) (k__way (m ha) (m hc) (k__cross (sz_way ha hb (by decide)) (sz_way ha hc (by decide)) ⟨S, Sub.refl _, h⟩))
theorem does_dot : Does c_dot w_dot N_dot 3 := by
  rintro ds S P X ⟨a, b, c, rfl, ha, hb, hc, h⟩
  refine ⟨rfl, ?_⟩
  show w_dot _ _ [some (DP a), some (DP b), some (DP c)] S
  simp only [w_dot, xret, xcall, xcons, xnil, v0, v1, v2]
  have m : ∀ {x : Rat × Rat}, SzP 200 x → SzP 1000 x := fun h => SzP_mono h (by decide)
  exact k__way (m ha) (m hb) (k__way (m ha) (m hc) (k__along (sz_way ha hb (by decide)) (sz_way ha hc (by decide)) ⟨S, Sub.refl _, h⟩))
theorem does__law_cross : Does c__law_cross w__law_cross N__law_cross 3 := by
  rintro ds S P X ⟨a, b, c, rfl, ha, hb, hc, h⟩
  refine ⟨rfl, ?_⟩
  show w__law_cross _ _ [some (DI a), some (DI b), some (DI c)] S
  simp only [w__law_cross, xret, x2, v0, v1, v2, xc, iI0, iI1, omulI, oaddI, osubI]
  exact ⟨(dif1 hb ha).1.cmul (dif1 hc ha).2 (by decide), (dif1 hb ha).2.cmul (dif1 hc ha).1 (by decide), S, Sub.refl _, h⟩
theorem k_crs {a b c : PT} {B : Nat} {S : Sto} {P : PD} {X : PX} (hB : B ≤ 1000000) (ha : a.1.natAbs ≤ B ∧ a.2.natAbs ≤ B) (hb : b.1.natAbs ≤ B ∧ b.2.natAbs ≤ B) (hc : c.1.natAbs ≤ B ∧ c.2.natAbs ≤ B) (k : P (.int (trn a b c)) S) : c__law_cross [DI a, DI b, DI c] S P X := by
  have f : ∀ {x : PT}, x.1.natAbs ≤ B ∧ x.2.natAbs ≤ B → BP 1000 x := fun h => ⟨bd_s (by omega) (by decide), bd_s (by omega) (by decide)⟩
  exact ⟨a, b, c, rfl, f ha, f hb, f hc, k⟩
theorem k_any {p q : Addr} {n : Int} {S : Sto} {P : PD} {X : PX} (hd : Deal S p q) (h0 : 0 < n) (hb : n ≤ 1000) (k : ∀ r S', 0 ≤ r → r < n → Deal S' p q → Fr p q S S' → P (.int r) S') : c__law_any [.ref p, .int n] S P X :=
  ⟨p, q, n, rfl, hd, h0, bd_s (by omega) (by decide), k⟩
theorem k_pick {p q : Addr} {es : List D} {S : Sto} {P : PD} {X : PX} (hd : Deal S p q) (h0 : es ≠ []) (hb : es.length ≤ 1000) (k : ∀ d ∈ es, ∀ S', Deal S' p q → Fr p q S S' → P d S') : c__law_of [.ref p, .lst es] S P X :=
  ⟨p, q, es, rfl, hd, h0, hb, k⟩
theorem lcm_run {G : WG} {w : WE} {vs : List Nat} {env : PL.Env} {p : Addr} {P : PD} {S : Sto} {α : Type} (g f : α → D) (hp : S p = none) : ∀ (xs : List α) (acc : List D), acc.length + xs.length ≤ sizeLine →
    (∀ x ∈ xs, ∀ (S1 : Sto) (R : D → Sto → Prop), R (f x) S1 → G (g x) (wipeD env vs) S1 (fun e1 S2 => w e1 S2 R (fun _ _ => False)) (fun _ _ => False)) →
    P (.lst (acc ++ xs.map f)) S → lcD G tYesD w vs env p (lcEnd P p) (xs.map g) (sput S p (.lst acc))
  | [], acc, _, _, h => by
    rw [List.map_nil, List.append_nil] at h
    refine lcEnd_i sput_at ?_
    rw [sdel_put hp]
    exact h
  | x :: xs, acc, hl, hs, h => by
    rw [List.length_cons] at hl
    refine hs x List.mem_cons_self _ (fun y S3 => lcPut p y _ S3) ?_
    show lcPut p (f x) _ _
    unfold lcPut
    rw [sput_at]
    refine ⟨by omega, ?_⟩
    rw [sput_sput]
    exact lcm_run g f hp xs (acc ++ [f x]) (by rw [List.length_append, List.length_singleton]; omega) (fun d' hd => hs d' (List.mem_cons_of_mem _ hd)) (by rw [List.append_assoc]; exact h)
/-- a comprehension that only maps -/
theorem lcM_go {wi : WI} {G : WG} {w : WE} {vs : List Nat} {env : PL.Env} {S : Sto} {P : PD} {X : PX} {α : Type} (g f : α → D) (xs : List α) (hi : ∀ Q : List D → Sto → Prop, Q (xs.map g) S → wi env S Q X) (hl : xs.length ≤ sizeLine)
    (hs : ∀ x ∈ xs, ∀ (S1 : Sto) (R : D → Sto → Prop), R (f x) S1 → G (g x) (wipeD env vs) S1 (fun e1 S2 => w e1 S2 R (fun _ _ => False)) (fun _ _ => False))
    (h : P (.lst (xs.map f)) S) : wLc wi G tYesD w vs env S P X :=
  hi _ fun p hp => lcm_run g f hp xs [] (by simpa using hl) hs h
theorem lcf_run {G : WG} {t : WB} {w : WE} {vs : List Nat} {env : PL.Env} {p : Addr} {P : PD} {S : Sto} {α : Type} (g : α → D) (Dr : α → Prop) (hp : S p = none) : ∀ (xs ys : List α), ys.length + xs.length ≤ sizeLine →
    (∀ x ∈ xs, ∀ (S1 : Sto) (R : Bool → PL.Env → Sto → Prop), (∀ b e1, (b = false → Dr x) → (∀ Q : PD, Q (g x) S1 → w e1 S1 Q (fun _ _ => False)) → R b e1 S1) → G (g x) (wipeD env vs) S1 (fun e1 S2 => t e1 S2 (fun b S3 => R b e1 S3) (fun _ _ => False)) (fun _ _ => False)) →
    (∀ zs : List α, (∀ z ∈ zs, z ∈ ys ∨ z ∈ xs) → zs.length ≤ ys.length + xs.length → (∀ z ∈ ys, z ∈ zs) → (∀ z ∈ xs, z ∈ zs ∨ Dr z) → P (.lst (zs.map g)) S) → lcD G t w vs env p (lcEnd P p) (xs.map g) (sput S p (.lst (ys.map g)))
  | [], ys, _, _, h => by
    refine lcEnd_i sput_at ?_
    rw [sdel_put hp]
    exact h ys (fun z hz => .inl hz) (by omega) (fun z hz => hz) (fun z hz => by cases hz)
  | x :: xs, ys, hl, hs, h => by
    rw [List.length_cons] at hl h
    refine hs x List.mem_cons_self _ (fun b e1 S2 => if b = true then w e1 S2 (fun y S3 => lcPut p y _ S3) (fun _ _ => False) else lcD G t w vs env p (lcEnd P p) (xs.map g) S2) fun b e1 hd hw => ?_
    cases b with
    | true =>
      rw [if_pos rfl]
      refine hw _ ?_
      show lcPut p (g x) _ _
      unfold lcPut
      rw [sput_at]
      refine ⟨by rw [List.length_map]; omega, ?_⟩
      rw [sput_sput]
      have e : ys.map g ++ [g x] = (ys ++ [x]).map g := by simp
      rw [e]
      refine lcf_run g Dr hp xs (ys ++ [x]) (by rw [List.length_append, List.length_singleton]; omega) (fun d' hd => hs d' (List.mem_cons_of_mem _ hd)) fun zs hz lz hk hr => h zs (fun z hm => ?_) (by rw [List.length_append, List.length_singleton] at lz; omega) (fun z hm => hk z (List.mem_append_left _ hm)) (fun z hm => ?_)
      · rcases hz z hm with a | a
        · rcases List.mem_append.mp a with a | a
          · exact .inl a
          · rw [List.mem_singleton.mp a]; exact .inr List.mem_cons_self
        · exact .inr (List.mem_cons_of_mem _ a)
      · rcases List.mem_cons.mp hm with rfl | hm
        · exact .inl (hk _ (List.mem_append_right _ List.mem_cons_self))
        · exact hr z hm
    | false =>
      rw [if_neg (by decide)]
      refine lcf_run g Dr hp xs ys (by omega) (fun d' hd => hs d' (List.mem_cons_of_mem _ hd)) fun zs hz lz hk hr => h zs (fun z hm => ?_) (by omega) hk (fun z hm => ?_)
      · rcases hz z hm with a | a
        · exact .inl a
        · exact .inr (List.mem_cons_of_mem _ a)
      · rcases List.mem_cons.mp hm with rfl | hm
        · exact .inr (hd rfl)
        · exact hr z hm
/-- a comprehension that keeps some of the things; what is dropped is so for a reason -/
theorem lcF_go {wi : WI} {G : WG} {t : WB} {w : WE} {vs : List Nat} {env : PL.Env} {S : Sto} {P : PD} {X : PX} {α : Type} (g : α → D) (Dr : α → Prop) (xs : List α) (hi : ∀ Q : List D → Sto → Prop, Q (xs.map g) S → wi env S Q X) (hl : xs.length ≤ sizeLine)
    (hs : ∀ x ∈ xs, ∀ (S1 : Sto) (R : Bool → PL.Env → Sto → Prop), (∀ b e1, (b = false → Dr x) → (∀ Q : PD, Q (g x) S1 → w e1 S1 Q (fun _ _ => False)) → R b e1 S1) → G (g x) (wipeD env vs) S1 (fun e1 S2 => t e1 S2 (fun b S3 => R b e1 S3) (fun _ _ => False)) (fun _ _ => False))
    (h : ∀ zs : List α, (∀ z ∈ zs, z ∈ xs) → zs.length ≤ xs.length → (∀ z ∈ xs, z ∈ zs ∨ Dr z) → P (.lst (zs.map g)) S) : wLc wi G t w vs env S P X :=
  hi _ fun p hp => lcf_run g Dr hp xs [] (by simpa using hl) hs fun zs hz lz _ hr => h zs (fun z hm => (hz z hm).elim (fun a => by cases a) id) (by simpa using lz) hr
theorem lcp_run {G : WG} {t : WB} {w : WE} {vs : List Nat} {env : PL.Env} {p : Addr} {P : PD} {S : Sto} {α : Type} (g : α → D) (pr : α → Bool) (hp : S p = none) : ∀ (xs ys : List α), ys.length + xs.length ≤ sizeLine →
    (∀ x ∈ xs, ∀ (S1 : Sto) (R : Bool → PL.Env → Sto → Prop), (∀ e1, (∀ Q : PD, Q (g x) S1 → w e1 S1 Q (fun _ _ => False)) → R (pr x) e1 S1) → G (g x) (wipeD env vs) S1 (fun e1 S2 => t e1 S2 (fun b S3 => R b e1 S3) (fun _ _ => False)) (fun _ _ => False)) →
    P (.lst ((ys ++ xs.filter pr).map g)) S → lcD G t w vs env p (lcEnd P p) (xs.map g) (sput S p (.lst (ys.map g)))
  | [], ys, _, _, h => by
    refine lcEnd_i sput_at ?_
    rw [sdel_put hp]
    rwa [List.filter_nil, List.append_nil] at h
  | x :: xs, ys, hl, hs, h => by
    rw [List.length_cons] at hl
    refine hs x List.mem_cons_self _ (fun b e1 S2 => if b = true then w e1 S2 (fun y S3 => lcPut p y _ S3) (fun _ _ => False) else lcD G t w vs env p (lcEnd P p) (xs.map g) S2) fun e1 hw => ?_
    by_cases c : pr x = true
    · rw [if_pos c]
      refine hw _ ?_
      show lcPut p (g x) _ _
      unfold lcPut
      rw [sput_at]
      refine ⟨by rw [List.length_map]; omega, ?_⟩
      rw [sput_sput]
      have e : ys.map g ++ [g x] = (ys ++ [x]).map g := by simp
      rw [e]
      rw [List.filter_cons_of_pos c] at h
      exact lcp_run g pr hp xs (ys ++ [x]) (by rw [List.length_append, List.length_singleton]; omega) (fun d' hd => hs d' (List.mem_cons_of_mem _ hd)) (by rw [List.append_assoc]; exact h)
    · rw [if_neg c]
      rw [List.filter_cons_of_neg c] at h
      exact lcp_run g pr hp xs ys (by omega) (fun d' hd => hs d' (List.mem_cons_of_mem _ hd)) h
/-- a comprehension that keeps what is told -/
theorem lcP_go {wi : PL.WI} {G : WG} {t : WB} {w : WE} {vs : List Nat} {env : PL.Env} {S : Sto} {P : PD} {X : PX} {α : Type} (g : α → D) (pr : α → Bool) (xs : List α) (hi : ∀ Q : List D → Sto → Prop, Q (xs.map g) S → wi env S Q X) (hl : xs.length ≤ sizeLine)
    (hs : ∀ x ∈ xs, ∀ (S1 : Sto) (R : Bool → PL.Env → Sto → Prop), (∀ e1, (∀ Q : PD, Q (g x) S1 → w e1 S1 Q (fun _ _ => False)) → R (pr x) e1 S1) → G (g x) (wipeD env vs) S1 (fun e1 S2 => t e1 S2 (fun b S3 => R b e1 S3) (fun _ _ => False)) (fun _ _ => False))
    (h : P (.lst ((xs.filter pr).map g)) S) : wLc wi G t w vs env S P X :=
  hi _ fun p hp => lcp_run g pr hp xs [] (by simpa using hl) hs (by rw [List.nil_append]; exact h)
/-- a comprehension whose things are drawn -/
theorem lcD_go {wi : WI} {G : WG} {w : WE} {vs : List Nat} {env : PL.Env} {S : Sto} {P : PD} {X : PX} {p q : Addr} (N : D → Prop) (ds : List D) (hi : ∀ Q : List D → Sto → Prop, Q ds S → wi env S Q X) (hd : Deal S p q) (hl : ds.length ≤ 1000)
    (hs : ∀ d ∈ ds, ∀ (S1 : Sto), Deal S1 p q → ∀ R : D → Sto → Prop, (∀ y S2, N y → Deal S2 p q → Fr p q S1 S2 → R y S2) → G d (wipeD env vs) S1 (fun e1 S2 => w e1 S2 R (fun _ _ => False)) (fun _ _ => False))
    (h : ∀ es S', es.length = ds.length → (∀ y ∈ es, N y) → Deal S' p q → Fr p q S S' → P (.lst es) S') : wLc wi G tYesD w vs env S P X :=
  hi _ (drawn (k := fun l S' => lcEnd P l S') N ds rfl hd hl hs fun l S' es hl hat le hn hd' hf => lcEnd_i hat (h es _ le hn (deal_del hd' (hd.neP hl) (hd.neQ hl)) (fr_del hf hl)))
theorem getD_at {α : Type} {d : α} {l : List α} {k : Nat} (h : k < l.length) : l[k]? = some (l.getD k d) := by
  rw [List.getD_eq_getElem?_getD, List.getElem?_eq_getElem h]; rfl
theorem xfld {cn : Str} {ks : List Str} {i : Nat} {u : WE} {r : PL.Env} {S : Sto} {P : PD} {X : PX} : wFld cn ks i u r S P X = u r S (fun d S1 => match d with
  | .obj c k ds => (c = cn ∧ k = ks) ∧ (match ds[i]? with
    | some y => P y S1
    | none => False)
  | _ => False) X := id rfl
theorem pts_at {ps : List (Rat × Rat)} {k : Nat} {S : Sto} {P : PD} (h : k < ps.length) : oIdx (PL' ps) (.int (k : Int)) S P = P (DP (ptAt ps k)) S := by
  refine lx_tup ?_
  rw [List.getElem?_map, getD_at (d := ((0 : Rat), (0 : Rat))) h]; rfl
theorem fq_at {fs : List Rat} {k : Nat} {S : Sto} {P : PD} (h : k < fs.length) : oIdx (FQ fs) (.int (k : Int)) S P = P (DQ (qAt fs k)) S := by
  refine lx_tup ?_
  rw [List.getElem?_map, getD_at (d := (0 : Rat)) h]; rfl
theorem tl_at {tr : List TR} {n : Nat} {t : TR} {S : Sto} {P : PD} (h : tr[n]? = some t) : oIdx (TL tr) (.int (n : Int)) S P = P (TT t) S := by
  refine lx_tup ?_
  rw [List.getElem?_map, h]; rfl
theorem md_p {ps : List (Rat × Rat)} {tr : List TR} {S : Sto} {P : PD} : (match MD ps tr with
  | .obj c k ds => (c = ("Mesh" : Str) ∧ k = (["points", "triangles"] : List Str)) ∧ (match ds[0]? with
    | some y => P y S
    | none => False)
  | _ => False) = P (PL' ps) S := propext ⟨fun h => h.2, fun h => ⟨⟨rfl, rfl⟩, h⟩⟩
theorem md_t {ps : List (Rat × Rat)} {tr : List TR} {S : Sto} {P : PD} : (match MD ps tr with
  | .obj c k ds => (c = ("Mesh" : Str) ∧ k = (["points", "triangles"] : List Str)) ∧ (match ds[1]? with
    | some y => P y S
    | none => False)
  | _ => False) = P (TL tr) S := propext ⟨fun h => h.2, fun h => ⟨⟨rfl, rfl⟩, h⟩⟩
theorem fp {ps : List (Rat × Rat)} {tr : List TR} {a : Nat} {r : PL.Env} {S : Sto} {P : PD} {X : PX} (h : ∀ Q : PD, wVar a r S Q X = Q (MD ps tr) S) : wFld "Mesh" ["points", "triangles"] 0 (wVar a) r S P X = P (PL' ps) S := by
  rw [xfld, h]; exact md_p (tr := tr)
theorem ft {ps : List (Rat × Rat)} {tr : List TR} {a : Nat} {r : PL.Env} {S : Sto} {P : PD} {X : PX} (h : ∀ Q : PD, wVar a r S Q X = Q (MD ps tr) S) : wFld "Mesh" ["points", "triangles"] 1 (wVar a) r S P X = P (TL tr) S := by
  rw [xfld, h]; exact md_t (ps := ps)
theorem does_corners_at : Does c_corners_at w_corners_at N_corners_at 2 := by
  rintro ds S P X ⟨ps, tr, n, t, rfl, A, h⟩
  refine ⟨rfl, ?_⟩
  show w_corners_at_2 _ _ [some (MD ps tr), some (.int (n : Int)), none, none, none] S
  have f0 : ∀ {r : PL.Env} {S : Sto} {P : PD} {X : PX}, wFld "Mesh" ["points", "triangles"] 0 (wVar 0) (some (MD ps tr) :: r) S P X = P (PL' ps) S := fp fun Q => v0
  have f1 : ∀ {r : PL.Env} {S : Sto} {P : PD} {X : PX}, wFld "Mesh" ["points", "triangles"] 1 (wVar 0) (some (MD ps tr) :: r) S P X = P (TL tr) S := ft fun Q => v0
  simp only [w_corners_at_2, xseq, w_corners_at_1, xset, x2, f1, v1, tl_at A.at_]
  show gTupD 3 _ (.tup [.int (t.1 : Int), .int (t.2.1 : Int), .int (t.2.2 : Int)]) _ _ _ _
  rw [g3p]
  simp only [List.set_cons_succ, List.set_cons_zero, w_corners_at_0, xret, xtup, xcons, xnil, x2, f0, v2, v3, v4, pts_at A.a, pts_at A.b, pts_at A.c]
  exact ⟨le_line (by simp), S, Sub.refl _, h⟩
def nrF (fs : List Rat) (d : D) : Option D := match d with
  | .int i => some (DQ (qAt fs i.toNat))
  | _ => none

theorem does_worths_at : Does c_worths_at w_worths_at N_worths_at 3 := by
  rintro ds S P X ⟨ps, tr, n, t, fs, rfl, A, hl, h⟩
  refine ⟨rfl, ?_⟩
  show w_worths_at _ _ [some (MD ps tr), some (.int (n : Int)), some (FQ fs), none] S
  have f1 : ∀ {r : PL.Env} {S : Sto} {P : PD} {X : PX}, wFld "Mesh" ["points", "triangles"] 1 (wVar 0) (some (MD ps tr) :: r) S P X = P (TL tr) S := ft fun Q => v0
  simp only [w_worths_at, xret, xn, xcons, xnil]
  refine lc_go (S1 := S) (ds := [.int (t.1 : Int), .int (t.2.1 : Int), .int (t.2.2 : Int)]) (nrF fs) (fun Q hq => ?_) (le_line (by simp)) (fun p hp y hy acc R hR => ?_) ?_
  · simp only [xitems, x2, f1, v1, tl_at A.at_]
    exact hq
  · have a := A.a
    have b := A.b
    have c := A.c
    rw [← hl] at a b c
    have key : ∃ k : Nat, y = .int (k : Int) ∧ k < fs.length := by
      simp only [List.mem_cons, List.not_mem_nil, or_false] at hy
      rcases hy with rfl | rfl | rfl
      · exact ⟨_, rfl, a⟩
      · exact ⟨_, rfl, b⟩
      · exact ⟨_, rfl, c⟩
    obtain ⟨k, rfl, hk⟩ := key
    simp only [wip3, g3, tYesD, if_true, x2, v2, v3, fq_at hk]
    exact hR
  · rw [tup_lst]
    exact ⟨S, Sub.refl _, h⟩
theorem k_cor {ps : List (Rat × Rat)} {tr : List TR} {n : Nat} {t : TR} {S : Sto} {P : PD} {X : PX} (A : At ps tr n t) (k : P (trD (DP (ptAt ps t.1)) (DP (ptAt ps t.2.1)) (DP (ptAt ps t.2.2))) S) : c_corners_at [MD ps tr, .int (n : Int)] S P X := ⟨ps, tr, n, t, rfl, A, k⟩
theorem k_wor {ps : List (Rat × Rat)} {tr : List TR} {n : Nat} {t : TR} {fs : List Rat} {S : Sto} {P : PD} {X : PX} (A : At ps tr n t) (hl : fs.length = ps.length) (k : P (trD (DQ (qAt fs t.1)) (DQ (qAt fs t.2.1)) (DQ (qAt fs t.2.2))) S) : c_worths_at [MD ps tr, .int (n : Int), FQ fs] S P X := ⟨ps, tr, n, t, fs, rfl, A, hl, k⟩
theorem k_slope {ps : List (Rat × Rat)} {tr : List TR} {n : Nat} {t : TR} {fs : List Rat} {S : Sto} {P : PD} {X : PX} (A : At ps tr n t) (hl : fs.length = ps.length) (m : SmT ps fs t) (k : P (.tup [DQ (sR ps fs t), DQ (sU ps fs t)]) S) : c_slope [MD ps tr, .int (n : Int), FQ fs] S P X := ⟨ps, tr, n, t, fs, rfl, A, hl, m, k⟩
theorem does_slope : Does c_slope w_slope N_slope 3 := by
  rintro ds S P X ⟨ps, tr, n, t, fs, rfl, A, hl, m, h⟩
  refine ⟨rfl, ?_⟩
  show w_slope_12 _ _ [some (MD ps tr), some (.int (n : Int)), some (FQ fs), none, none, none, none, none, none, none, none, none, none, none] S
  obtain ⟨pa, pb, pc, fa, fb, fc, nz⟩ := m
  simp only [sR, sU, slR, slU] at h
  simp only [w_slope_12, xseq, w_slope_11, xset, xcall, xcons, xnil, v0, v1]
  refine k_cor A ?_
  generalize ptAt ps t.1 = a at *
  generalize ptAt ps t.2.1 = b at *
  generalize ptAt ps t.2.2 = c at *
  show gTupD 3 _ (.tup [DP a, DP b, DP c]) _ _ _ _
  rw [g3p]
  simp only [List.set_cons_succ, List.set_cons_zero, w_slope_10, xseq, w_slope_9, xset, xcall, xcons, xnil, v0, v1, v2]
  refine k_wor A hl ?_
  generalize qAt fs t.1 = u at *
  generalize qAt fs t.2.1 = v at *
  generalize qAt fs t.2.2 = w at *
  show gTupD 3 _ (.tup [DQ u, DQ v, DQ w]) _ _ _ _
  rw [g3p]
  have s1 : Sz 91 (v - u) := (fb.sub fa).mono (by decide)
  have s2 : Sz 91 (w - u) := (fc.sub fa).mono (by decide)
  have d1 : Sz 25 (c.2 - a.2) := (pc.2.sub pa.2).mono (by decide)
  have d2 : Sz 25 (b.2 - a.2) := (pb.2.sub pa.2).mono (by decide)
  have d3 : Sz 25 (b.1 - a.1) := (pb.1.sub pa.1).mono (by decide)
  have d4 : Sz 25 (c.1 - a.1) := (pc.1.sub pa.1).mono (by decide)
  have m1 : Sz 116 ((v - u) * (c.2 - a.2)) := (s1.mul d1).mono (by decide)
  have m2 : Sz 116 ((w - u) * (b.2 - a.2)) := (s2.mul d2).mono (by decide)
  have m3 : Sz 116 ((w - u) * (b.1 - a.1)) := (s2.mul d3).mono (by decide)
  have m4 : Sz 116 ((v - u) * (c.1 - a.1)) := (s1.mul d4).mono (by decide)
  have sa : Sz 101 (dar a b c) := sz_dar pa pb pc (by decide)
  simp only [List.set_cons_succ, List.set_cons_zero, w_slope_8, xseq, w_slope_7, xpar2, xcall, xcons, xnil, PL.v9, v10, v11]
  refine k_minus (fb.mono (by decide)) (fa.mono (by decide)) (k_minus (fc.mono (by decide)) (fa.mono (by decide)) ?_)
  simp only [List.set_cons_succ, List.set_cons_zero, w_slope_6, xseq, w_slope_5, xset, xcall, xcons, xnil, x2, v6, PL.v7, PL.v8, v12, v13, xc, iP0, iP1]
  refine k_minus (pc.2.mono (by decide)) (pa.2.mono (by decide)) (k_times (s1.mono (by decide)) (d1.mono (by decide)) ?_)
  refine k_minus (pb.2.mono (by decide)) (pa.2.mono (by decide)) (k_times (s2.mono (by decide)) (d2.mono (by decide)) ?_)
  refine k_minus (m1.mono (by decide)) (m2.mono (by decide)) ?_
  simp only [g3, w_slope_4, xseq, w_slope_3, xset, xcall, xcons, xnil, x2, v6, PL.v7, PL.v8, v12, v13, xc, iP0, iP1]
  refine k_minus (pb.1.mono (by decide)) (pa.1.mono (by decide)) (k_times (s2.mono (by decide)) (d3.mono (by decide)) ?_)
  refine k_minus (pc.1.mono (by decide)) (pa.1.mono (by decide)) (k_times (s1.mono (by decide)) (d4.mono (by decide)) ?_)
  refine k_minus (m3.mono (by decide)) (m4.mono (by decide)) ?_
  simp only [g4, w_slope_2, xseq, w_slope_1, xset, xcall, xcons, xnil, v6, PL.v7, PL.v8]
  refine k_doubled_area (SzP_mono pa (by decide)) (SzP_mono pb (by decide)) (SzP_mono pc (by decide)) ?_
  simp only [PL.g5, w_slope_0, xret, xtup, xcall, xcons, xnil, v3, v4, PL.v5]
  refine k_over ((m1.sub m2).mono (by decide)) (sa.mono (by decide)) nz (k_over ((m3.sub m4).mono (by decide)) (sa.mono (by decide)) nz ?_)
  exact ⟨two_line, S, Sub.refl _, h⟩
theorem sz_sl {a b c : Rat × Rat} {u v w : Rat} (pa : SzP 12 a) (pb : SzP 12 b) (pc : SzP 12 c) (fa : Sz 45 u) (fb : Sz 45 v) (fc : Sz 45 w) (nz : dar a b c ≠ 0) : Sz 334 (slR a b c u v w) ∧ Sz 334 (slU a b c u v w) := by
  have s1 : Sz 91 (v - u) := (fb.sub fa).mono (by decide)
  have s2 : Sz 91 (w - u) := (fc.sub fa).mono (by decide)
  have d1 : Sz 25 (c.2 - a.2) := (pc.2.sub pa.2).mono (by decide)
  have d2 : Sz 25 (b.2 - a.2) := (pb.2.sub pa.2).mono (by decide)
  have d3 : Sz 25 (b.1 - a.1) := (pb.1.sub pa.1).mono (by decide)
  have d4 : Sz 25 (c.1 - a.1) := (pc.1.sub pa.1).mono (by decide)
  have sa : Sz 101 (dar a b c) := sz_dar pa pb pc (by decide)
  exact ⟨(((s1.mul d1).sub (s2.mul d2)).div sa nz).mono (by decide), (((s2.mul d3).sub (s1.mul d4)).div sa nz).mono (by decide)⟩
theorem lit14 : D.tup [.int 1, .int 4] = DQ (Rat.divInt 1 4) := by
  have e1 : (Rat.divInt 1 4).num = 1 := by decide +kernel
  have e2 : (Rat.divInt 1 4).den = 4 := by decide +kernel
  unfold DQ
  rw [e1, e2]
  rfl
theorem does_triangle_energy : Does c_triangle_energy w_triangle_energy N_triangle_energy 3 := by
  rintro ds S P X ⟨ps, tr, n, t, fs, rfl, A, hl, m, h⟩
  refine ⟨rfl, ?_⟩
  show w_triangle_energy_4 _ _ [some (MD ps tr), some (.int (n : Int)), some (FQ fs), none, none, none, none, none] S
  obtain ⟨sr, su⟩ := sz_sl m.pa m.pb m.pc m.fa m.fb m.fc m.nz
  have pa := m.pa
  have pb := m.pb
  have pc := m.pc
  simp only [w_triangle_energy_4, xseq, w_triangle_energy_3, xset, xcall, xcons, xnil, v0, v1]
  refine k_cor A ?_
  show gTupD 3 _ (.tup [DP (ptAt ps t.1), DP (ptAt ps t.2.1), DP (ptAt ps t.2.2)]) _ _ _ _
  rw [g3p]
  simp only [List.set_cons_succ, List.set_cons_zero, w_triangle_energy_2, xseq, w_triangle_energy_1, xset, xcall, xcons, xnil, v0, v1, v2]
  refine k_slope A hl m ?_
  rw [g2p]
  simp only [sR, sU] at h ⊢
  generalize slR (ptAt ps t.1) (ptAt ps t.2.1) (ptAt ps t.2.2) (qAt fs t.1) (qAt fs t.2.1) (qAt fs t.2.2) = r at *
  generalize slU (ptAt ps t.1) (ptAt ps t.2.1) (ptAt ps t.2.2) (qAt fs t.1) (qAt fs t.2.1) (qAt fs t.2.2) = u at *
  generalize ptAt ps t.1 = a at *
  generalize ptAt ps t.2.1 = b at *
  generalize ptAt ps t.2.2 = c at *
  have sa : Sz 101 (dar a b c) := sz_dar pa pb pc (by decide)
  have s4 : Sz 3 (Rat.divInt 1 4) := ⟨by unfold Bd; decide +kernel, by unfold Bd; decide +kernel⟩
  simp only [List.set_cons_succ, List.set_cons_zero, w_triangle_energy_0, xret, xcall, xtup, xcons, xnil, xc, v3, v4, PL.v5, v6, PL.v7]
  refine ⟨two_line, ?_⟩
  rw [lit14]
  refine k_doubled_area (SzP_mono pa (by decide)) (SzP_mono pb (by decide)) (SzP_mono pc (by decide)) ?_
  refine k_times (s4.mono (by decide)) (sa.mono (by decide)) ?_
  refine k_times (sr.mono (by decide)) (sr.mono (by decide)) (k_times (su.mono (by decide)) (su.mono (by decide)) ?_)
  refine k_plus ((sr.mul sr).mono (by decide)) ((su.mul su).mono (by decide)) (k_times ((s4.mul sa).mono (by decide)) (((sr.mul sr).add (su.mul su)).mono (by decide)) ?_)
  exact ⟨S, Sub.refl _, h⟩
theorem k_energy {ps : List (Rat × Rat)} {tr : List TR} {n : Nat} {t : TR} {fs : List Rat} {S : Sto} {P : PD} {X : PX} (A : At ps tr n t) (hl : fs.length = ps.length) (m : SmT ps fs t) (k : P (DQ (Rat.divInt 1 4 * dar (ptAt ps t.1) (ptAt ps t.2.1) (ptAt ps t.2.2) * (sR ps fs t * sR ps fs t + sU ps fs t * sU ps fs t))) S) : c_triangle_energy [MD ps tr, .int (n : Int), FQ fs] S P X := ⟨ps, tr, n, t, fs, rfl, A, hl, m, k⟩
theorem does_linear_field : Does c_linear_field w_linear_field N_linear_field 4 := by
  rintro ds S P X ⟨ps, tr, s, r, u, rfl, hl, hp, hs, hr, hu, h⟩
  refine ⟨rfl, ?_⟩
  show w_linear_field _ _ [some (MD ps tr), some (DQ s), some (DQ r), some (DQ u), none, none] S
  have f0 : ∀ {r : PL.Env} {S : Sto} {P : PD} {X : PX}, wFld "Mesh" ["points", "triangles"] 0 (wVar 0) (some (MD ps tr) :: r) S P X = P (PL' ps) S := fp fun Q => v0
  simp only [w_linear_field, xret, xn, xcons, xnil]
  refine lcM_go DP (fun p : Rat × Rat => DQ (s + (r * p.1 + u * p.2))) ps (fun Q hq => ?_) (le_line (by omega)) (fun p hpm S1 R hR => ?_) ?_
  · simp only [xitems, f0]
    exact hq
  · have sp := hp p hpm
    show gTupD 2 (gConsD (gVar 4) (gConsD (gVar 5) gNilD)) (.tup [DQ p.1, DQ p.2]) _ _ _ _
    rw [g2p]
    have m1 : Sz 17 (r * p.1) := (hr.mul sp.1).mono (by decide)
    have m2 : Sz 17 (u * p.2) := (hu.mul sp.2).mono (by decide)
    have w46 : ∀ {a b c d : D}, wipeD [some a, some b, some c, some d, none, none] [4, 5] = [some a, some b, some c, some d, none, none] := rfl
    simp only [w46, List.set_cons_succ, List.set_cons_zero, xcall, xcons, xnil, v1, v2, v3, v4, PL.v5]
    refine k_times (hr.mono (by decide)) (sp.1.mono (by decide)) (k_times (hu.mono (by decide)) (sp.2.mono (by decide)) ?_)
    exact k_plus (m1.mono (by decide)) (m2.mono (by decide)) (k_plus (hs.mono (by decide)) ((m1.add m2).mono (by decide)) hR)
  · rw [tup_lst]
    have e : (ps.map fun p : Rat × Rat => DQ (s + (r * p.1 + u * p.2))) = (ps.map fun p => s + (r * p.1 + u * p.2)).map DQ := by rw [List.map_map]; rfl
    rw [e]
    exact ⟨S, Sub.refl _, h⟩
theorem k_lplus {S : Sto} {P : PD} {X : PX} {p q : Rat} (h : Sz 1900 p) (g : Sz 1900 q) (k : P (DQ (p + q)) S) : c__law_plus [DQ p, DQ q] S P X := ⟨p, q, rfl, h, g, k⟩
theorem den_pos (q : Rat) : (0 : Int) < (q.den : Int) := Int.ofNat_lt.mpr q.den_pos
theorem does__law_plus : Does c__law_plus w__law_plus N__law_plus 2 := by
  rintro ds S P X ⟨p, q, rfl, hp, hq, h⟩
  refine ⟨rfl, ?_⟩
  show w__law_plus _ _ [some (DQ p), some (DQ q)] S
  obtain ⟨p1, p2⟩ := (show Bd 1900 p.num ∧ Bd 1900 (p.den : Int) from hp)
  obtain ⟨q1, q2⟩ := (show Bd 1900 q.num ∧ Bd 1900 (q.den : Int) from hq)
  simp only [w__law_plus, xret, xcall, xcons, xnil, x2, v0, v1, xc, oidxQ0, oidxQ1, omulI, oaddI]
  refine ⟨p1.cmul q2 (by decide), q1.cmul p2 (by decide), p2.cmul q2 (by decide), k__law_low ((p2.mul q2).mono (by decide)) (Int.mul_pos (den_pos p) (den_pos q)) ⟨S, Sub.refl _, ?_⟩⟩
  rw [← q_add]; exact h
theorem getD_mem {α : Type} {d : α} {l : List α} {k : Nat} (h : k < l.length) : l.getD k d ∈ l := by
  rw [List.getD_eq_getElem?_getD, List.getElem?_eq_getElem h]
  exact List.getElem_mem h
theorem trn_rot (a b c : PT) : trn b c a = trn a b c := by unfold trn; grind
theorem rot_ok {sp : List PT} {t u : TR} (h : triOk sp t) (r : rotT t u) : triOk sp u := by
  obtain ⟨⟨h1, h2, h3⟩, h4⟩ := h
  cases r with
  | zero => exact ⟨⟨h1, h2, h3⟩, h4⟩
  | one => exact ⟨⟨h2, h3, h1⟩, by dsimp only; rw [trn_rot]; exact h4⟩
  | two => exact ⟨⟨h3, h1, h2⟩, by dsimp only; rw [trn_rot, trn_rot]; exact h4⟩
theorem spt_end (sp : List PT) (z : PT) : spt (sp ++ [z]) sp.length = z := by
  unfold spt
  rw [List.getD_eq_getElem?_getD, List.getElem?_append_right (Nat.le_refl _), Nat.sub_self]
  rfl
theorem spt_app {sp sq : List PT} {k : Nat} (hk : k < sp.length) : spt (sp ++ sq) k = spt sp k := by
  unfold spt
  rw [List.getD_eq_getElem?_getD, List.getD_eq_getElem?_getD, List.getElem?_append_left hk]
theorem triOk_app {sp sq : List PT} {t : TR} (h : triOk sp t) : triOk (sp ++ sq) t := by
  obtain ⟨⟨h1, h2, h3⟩, h4⟩ := h
  have e : ∀ {k : Nat}, k < sp.length → spt (sp ++ sq) k = spt sp k := fun {k} hk => by
    unfold spt
    rw [List.getD_eq_getElem?_getD, List.getD_eq_getElem?_getD, List.getElem?_append_left hk]
  refine ⟨⟨?_, ?_, ?_⟩, ?_⟩
  · rw [List.length_append]; omega
  · rw [List.length_append]; omega
  · rw [List.length_append]; omega
  · rw [e h1, e h2, e h3]; exact h4
/-! which points lie in a triangle: by crossings of a ray -/
def chi (a b p : PT) : Int := if a.2 ≤ p.2 ∧ p.2 < b.2 then (if 0 < trn a b p then 1 else 0) else if b.2 ≤ p.2 ∧ p.2 < a.2 then (if 0 < trn b a p then -1 else 0) else 0
theorem chi_anti (a b p : PT) : chi b a p = -chi a b p := by
  unfold chi
  by_cases h1 : a.2 ≤ p.2 ∧ p.2 < b.2
  · have h2 : ¬ (b.2 ≤ p.2 ∧ p.2 < a.2) := by omega
    rw [if_neg h2, if_pos h1, if_pos h1]
    split <;> rfl
  · by_cases h2 : b.2 ≤ p.2 ∧ p.2 < a.2
    · rw [if_pos h2, if_neg h1, if_pos h2]
      split <;> rfl
    · rw [if_neg h2, if_neg h1, if_neg h1, if_neg h2]; rfl
theorem trn_swap (a b p : PT) : trn b a p = -trn a b p := by unfold trn; grind
theorem sg_hi {l h : Int} (nl : l ≠ 0) (hh : 0 < h) : (0 < l ∧ 0 < l * h) ∨ (l < 0 ∧ l * h < 0) := by
  rcases Int.lt_or_gt_of_ne nl with c | c
  · exact .inr ⟨c, Int.mul_neg_of_neg_of_pos c hh⟩
  · exact .inl ⟨c, Int.mul_pos c hh⟩
theorem sg_lo {l h : Int} (nl : l ≠ 0) (hh : h ≤ 0) : (0 < l ∧ l * h ≤ 0) ∨ (l < 0 ∧ 0 ≤ l * h) := by
  rcases Int.lt_or_gt_of_ne nl with c | c
  · exact .inr ⟨c, Int.mul_nonneg_of_nonpos_of_nonpos (by omega) hh⟩
  · exact .inl ⟨c, Int.mul_nonpos_of_nonneg_of_nonpos (by omega) hh⟩
/-- one corner above -/
theorem up1 {l1 l2 l3 x y z : Int} (e : 0 < l1 + l2 + l3) (s : x + y + z = 0) (h2 : (0 < l2 ∧ x ≤ 0) ∨ (l2 < 0 ∧ 0 ≤ x)) (h3 : (0 < l3 ∧ y ≤ 0) ∨ (l3 < 0 ∧ 0 ≤ y)) (h1 : (0 < l1 ∧ 0 < z) ∨ (l1 < 0 ∧ z < 0)) :
    (0 < l1 ∧ 0 < l2 ∧ 0 < l3 → (if 0 < l2 then (1 : Int) else 0) + (if 0 < -l3 then -1 else 0) = 1) ∧ (¬ (0 < l1 ∧ 0 < l2 ∧ 0 < l3) → (if 0 < l2 then (1 : Int) else 0) + (if 0 < -l3 then -1 else 0) = 0) := by
  refine ⟨fun q => by rw [if_pos q.2.1, if_neg (by omega)]; rfl, fun q => ?_⟩
  by_cases c2 : 0 < l2
  · by_cases c3 : 0 < -l3
    · rw [if_pos c2, if_pos c3]; rfl
    · exfalso; omega
  · by_cases c3 : 0 < -l3
    · exfalso; omega
    · rw [if_neg c2, if_neg c3]; rfl
/-- one corner below -/
theorem up2 {l1 l2 l3 x y z : Int} (e : 0 < l1 + l2 + l3) (s : x + y + z = 0) (h2 : (0 < l2 ∧ 0 < x) ∨ (l2 < 0 ∧ x < 0)) (h3 : (0 < l3 ∧ 0 < y) ∨ (l3 < 0 ∧ y < 0)) (h1 : (0 < l1 ∧ z ≤ 0) ∨ (l1 < 0 ∧ 0 ≤ z)) :
    (0 < l1 ∧ 0 < l2 ∧ 0 < l3 → (if 0 < -l2 then (-1 : Int) else 0) + (if 0 < l3 then 1 else 0) = 1) ∧ (¬ (0 < l1 ∧ 0 < l2 ∧ 0 < l3) → (if 0 < -l2 then (-1 : Int) else 0) + (if 0 < l3 then 1 else 0) = 0) := by
  refine ⟨fun q => by rw [if_pos q.2.2, if_neg (by omega)]; rfl, fun q => ?_⟩
  by_cases c2 : 0 < -l2
  · by_cases c3 : 0 < l3
    · rw [if_pos c2, if_pos c3]; rfl
    · exfalso; omega
  · by_cases c3 : 0 < l3
    · exfalso; omega
    · rw [if_neg c2, if_neg c3]; rfl
theorem chi_up {a b p : PT} (h1 : a.2 ≤ p.2) (h2 : p.2 < b.2) : chi a b p = if 0 < trn a b p then 1 else 0 := by unfold chi; rw [if_pos ⟨h1, h2⟩]
theorem chi_dn {a b p : PT} (h1 : b.2 ≤ p.2) (h2 : p.2 < a.2) : chi a b p = if 0 < -trn a b p then -1 else 0 := by unfold chi; rw [if_neg (by omega), if_pos ⟨h1, h2⟩, trn_swap]
theorem chi_hh {a b p : PT} (h1 : p.2 < a.2) (h2 : p.2 < b.2) : chi a b p = 0 := by unfold chi; rw [if_neg (by omega), if_neg (by omega)]
theorem chi_ll {a b p : PT} (h1 : a.2 ≤ p.2) (h2 : b.2 ≤ p.2) : chi a b p = 0 := by unfold chi; rw [if_neg (by omega), if_neg (by omega)]
def nIn (a b c p : PT) : Int := if inT a b c p then 1 else 0
theorem nIn_of {a b c p : PT} {v : Int} (h : (inT a b c p → v = 1) ∧ (¬ inT a b c p → v = 0)) : v = nIn a b c p := by
  unfold nIn
  by_cases c : inT a b c p
  · rw [if_pos c, h.1 c]
  · rw [if_neg c, h.2 c]
theorem nIn_rot (a b c p : PT) : nIn b c a p = nIn a b c p := by
  unfold nIn
  have : inT b c a p ↔ inT a b c p := by unfold inT; omega
  by_cases c : inT a b c p
  · rw [if_pos c, if_pos (this.mpr c)]
  · rw [if_neg c, if_neg (fun z => c (this.mp z))]
section
variable {a b c p : PT}
theorem tri_e1 : trn a b p + trn b c p + trn c a p = trn a b c := by unfold trn; grind
theorem tri_e2 : trn b c p * (a.2 - p.2) + trn c a p * (b.2 - p.2) + trn a b p * (c.2 - p.2) = 0 := by unfold trn; grind
/-- a, b below, c above -/
theorem chi_c1 (hT : 0 < trn a b c) (n1 : trn a b p ≠ 0) (n2 : trn b c p ≠ 0) (n3 : trn c a p ≠ 0) (ha : a.2 ≤ p.2) (hb : b.2 ≤ p.2) (hc : p.2 < c.2) : chi a b p + chi b c p + chi c a p = nIn a b c p := by
  have e1 := tri_e1 (a := a) (b := b) (c := c) (p := p)
  have := up1 (by omega) (tri_e2 (a := a) (b := b) (c := c) (p := p)) (sg_lo n2 (by omega)) (sg_lo n3 (by omega)) (sg_hi n1 (by omega))
  rw [chi_ll ha hb, chi_up hb hc, chi_dn ha hc, Int.zero_add]
  exact nIn_of this
/-- a, b above, c below -/
theorem chi_c2 (hT : 0 < trn a b c) (n1 : trn a b p ≠ 0) (n2 : trn b c p ≠ 0) (n3 : trn c a p ≠ 0) (ha : p.2 < a.2) (hb : p.2 < b.2) (hc : c.2 ≤ p.2) : chi a b p + chi b c p + chi c a p = nIn a b c p := by
  have e1 := tri_e1 (a := a) (b := b) (c := c) (p := p)
  have := up2 (by omega) (tri_e2 (a := a) (b := b) (c := c) (p := p)) (sg_hi n2 (by omega)) (sg_hi n3 (by omega)) (sg_lo n1 (by omega))
  rw [chi_hh ha hb, chi_dn hc hb, chi_up hc ha, Int.zero_add]
  exact nIn_of this
theorem chi_tri (hT : 0 < trn a b c) (n1 : trn a b p ≠ 0) (n2 : trn b c p ≠ 0) (n3 : trn c a p ≠ 0) : chi a b p + chi b c p + chi c a p = nIn a b c p := by
  have r1 : trn b c a = trn a b c := trn_rot a b c
  have r2 : trn c a b = trn a b c := (trn_rot c a b).symm
  by_cases ha : p.2 < a.2
  · by_cases hb : p.2 < b.2
    · by_cases hc : p.2 < c.2
      · rw [chi_hh ha hb, chi_hh hb hc, chi_hh hc ha]
        refine nIn_of ⟨fun z => ?_, fun _ => rfl⟩
        exfalso
        have e := tri_e2 (a := a) (b := b) (c := c) (p := p)
        have q1 := Int.mul_pos z.2.1 (show 0 < a.2 - p.2 by omega)
        have q2 := Int.mul_pos z.2.2 (show 0 < b.2 - p.2 by omega)
        have q3 := Int.mul_pos z.1 (show 0 < c.2 - p.2 by omega)
        omega
      · exact chi_c2 hT n1 n2 n3 ha hb (by omega)
    · by_cases hc : p.2 < c.2
      · have := chi_c2 (a := c) (b := a) (c := b) (by rw [r2]; exact hT) n3 n1 n2 hc ha (by omega)
        rw [← nIn_rot a b c, ← nIn_rot b c a, ← this]; omega
      · have := chi_c1 (a := b) (b := c) (c := a) (by rw [r1]; exact hT) n2 n3 n1 (by omega) (by omega) ha
        rw [← nIn_rot a b c, ← this]; omega
  · by_cases hb : p.2 < b.2
    · by_cases hc : p.2 < c.2
      · have := chi_c2 (a := b) (b := c) (c := a) (by rw [r1]; exact hT) n2 n3 n1 hb hc (by omega)
        rw [← nIn_rot a b c, ← this]; omega
      · have := chi_c1 (a := c) (b := a) (c := b) (by rw [r2]; exact hT) n3 n1 n2 (by omega) (by omega) hb
        rw [← nIn_rot a b c, ← nIn_rot b c a, ← this]; omega
    · by_cases hc : p.2 < c.2
      · exact chi_c1 hT n1 n2 n3 (by omega) (by omega) hc
      · rw [chi_ll (by omega) (by omega), chi_ll (by omega) (by omega), chi_ll (by omega) (by omega)]
        refine nIn_of ⟨fun z => ?_, fun _ => rfl⟩
        exfalso
        have e := tri_e2 (a := a) (b := b) (c := c) (p := p)
        have q1 := Int.mul_nonpos_of_nonneg_of_nonpos (Int.le_of_lt z.2.1) (show a.2 - p.2 ≤ 0 by omega)
        have q2 := Int.mul_nonpos_of_nonneg_of_nonpos (Int.le_of_lt z.2.2) (show b.2 - p.2 ≤ 0 by omega)
        have q3 := Int.mul_nonpos_of_nonneg_of_nonpos (Int.le_of_lt z.1) (show c.2 - p.2 ≤ 0 by omega)
        have z1 : trn b c p * (a.2 - p.2) = 0 := by omega
        have z2 : trn c a p * (b.2 - p.2) = 0 := by omega
        have z3 : trn a b p * (c.2 - p.2) = 0 := by omega
        have y1 : a.2 - p.2 = 0 := (Int.mul_eq_zero.mp z1).resolve_left n2
        have y2 : b.2 - p.2 = 0 := (Int.mul_eq_zero.mp z2).resolve_left n3
        have y3 : c.2 - p.2 = 0 := (Int.mul_eq_zero.mp z3).resolve_left n1
        have : trn a b c = 0 := by
          unfold trn
          rw [show c.2 - a.2 = 0 by omega, show b.2 - a.2 = 0 by omega]; simp
        omega
end
/-! for all great numbers -/
def Evn (P : Nat → Prop) : Prop := ∃ m0, ∀ m, m0 ≤ m → P m
theorem Evn.and {P Q : Nat → Prop} (h : Evn P) (g : Evn Q) : Evn fun m => P m ∧ Q m := by
  obtain ⟨a, h⟩ := h
  obtain ⟨b, g⟩ := g
  exact ⟨max a b, fun m hm => ⟨h m (by omega), g m (by omega)⟩⟩
theorem Evn.mono {P Q : Nat → Prop} (h : Evn P) (i : ∀ m, P m → Q m) : Evn Q := let ⟨a, h⟩ := h; ⟨a, fun m hm => i m (h m hm)⟩
theorem Evn.of {P : Nat → Prop} (h : ∀ m, P m) : Evn P := ⟨0, fun m _ => h m⟩
theorem Evn.all {α : Type} {P : α → Nat → Prop} : ∀ {xs : List α}, (∀ x ∈ xs, Evn (P x)) → Evn fun m => ∀ x ∈ xs, P x m
  | [], _ => .of fun _ x hx => by cases hx
  | x :: xs, h => ((h x List.mem_cons_self).and (Evn.all fun y hy => h y (List.mem_cons_of_mem _ hy))).mono fun m ⟨a, b⟩ y hy => by
    rcases List.mem_cons.mp hy with rfl | hy
    · exact a
    · exact b y hy
theorem Evn.get {P : Nat → Prop} (h : Evn P) : ∃ m : Nat, 0 < m ∧ P m := let ⟨a, h⟩ := h; ⟨a + 1, by omega, h _ (by omega)⟩
/-- a square's term wins -/
theorem quad_pos {A B C : Int} (hA : 0 < A) : Evn fun m => 0 < A * ((m : Int) * m) + B * m + C := by
  refine ⟨B.natAbs + C.natAbs + 1, fun m hm => ?_⟩
  have h1 : (m : Int) * m ≤ A * ((m : Int) * m) := by
    have := Int.mul_le_mul_of_nonneg_right (show 1 ≤ A by omega) (show (0 : Int) ≤ (m : Int) * m from Int.mul_nonneg (by omega) (by omega))
    rwa [Int.one_mul] at this
  have h2 : (B.natAbs + C.natAbs + 1 : Int) * m ≤ (m : Int) * m := Int.mul_le_mul_of_nonneg_right (by omega) (by omega)
  have h3 : -(B.natAbs : Int) * m ≤ B * m := Int.mul_le_mul_of_nonneg_right (by omega) (by omega)
  have h4 : (C.natAbs : Int) ≤ (C.natAbs : Int) * m := by
    have := Int.mul_le_mul_of_nonneg_left (show (1 : Int) ≤ m by omega) (show (0 : Int) ≤ C.natAbs by omega)
    rwa [Int.mul_one] at this
  have h5 : (B.natAbs + C.natAbs + 1 : Int) * m = B.natAbs * m + C.natAbs * m + m := by grind
  have h6 : -(B.natAbs : Int) * m = -(B.natAbs * m) := Int.neg_mul _ _
  have h7 : -(C.natAbs : Int) ≤ C := by omega
  have k1 : 0 ≤ (B.natAbs : Int) * m := Int.mul_nonneg (by omega) (by omega)
  have k2 : (1 : Int) ≤ m := by omega
  rw [h6] at h3
  rw [h5] at h2
  refine Int.lt_of_lt_of_le (b := -((B.natAbs : Int) * m) + ((B.natAbs : Int) * m + C.natAbs * m + m) + -(C.natAbs : Int)) ?_ ?_
  · omega
  · refine Int.add_le_add ?_ h7
    rw [Int.add_comm]
    exact Int.add_le_add (Int.le_trans h2 h1) h3
theorem quad_ne {A B C : Int} (h : ¬ (A = 0 ∧ B = 0 ∧ C = 0)) : Evn fun m => A * ((m : Int) * m) + B * m + C ≠ 0 := by
  rcases Int.lt_trichotomy A 0 with a | a | a
  · refine (quad_pos (A := -A) (B := -B) (C := -C) (by omega)).mono fun m hm => ?_
    have : -A * ((m : Int) * m) + -B * m + -C = -(A * ((m : Int) * m) + B * m + C) := by grind
    omega
  · subst a
    by_cases hB : B = 0
    · subst hB
      refine .of fun m => ?_
      simp only [Int.zero_mul, Int.zero_add]
      omega
    · refine ⟨C.natAbs + 1, fun m hm z => ?_⟩
      simp only [Int.zero_mul, Int.zero_add] at z
      have h1 : (B * m).natAbs = B.natAbs * m := by rw [Int.natAbs_mul, Int.natAbs_natCast]
      have h2 : 1 * m ≤ B.natAbs * m := Nat.mul_le_mul_right _ (by omega)
      omega
  · exact (quad_pos (A := A) (B := B) (C := C) a).mono fun m hm => by omega
/-! covers -/
def chT (sp : List PT) (n : Int) (p : PT) (t : TR) : Int :=
  chi (big n (spt sp t.1)) (big n (spt sp t.2.1)) p + chi (big n (spt sp t.2.1)) (big n (spt sp t.2.2)) p + chi (big n (spt sp t.2.2)) (big n (spt sp t.1)) p
def sI {α : Type} (f : α → Int) : List α → Int
  | [] => 0
  | x :: xs => f x + sI f xs
theorem sI_app {α : Type} (f : α → Int) (ys : List α) : ∀ xs : List α, sI f (xs ++ ys) = sI f xs + sI f ys
  | [] => by simp only [List.nil_append, sI, Int.zero_add]
  | x :: xs => by simp only [List.cons_append, sI, sI_app f ys xs, Int.add_assoc]
theorem sI_perm {α : Type} {f : α → Int} {xs ys : List α} (h : xs.Perm ys) : sI f xs = sI f ys := by
  induction h with
  | nil => rfl
  | cons x _ ih => simp only [sI, ih]
  | swap x y l => simp only [sI]; omega
  | trans _ _ ih1 ih2 => exact ih1.trans ih2
theorem sI_filter {α : Type} (f : α → Int) (q : α → Bool) : ∀ xs : List α, sI f xs = sI f (xs.filter q) + sI f (xs.filter fun x => !q x)
  | [] => rfl
  | x :: xs => by
    have ih := sI_filter f q xs
    by_cases c : q x = true
    · rw [List.filter_cons_of_pos c, List.filter_cons_of_neg (by simp [c])]
      simp only [sI]; omega
    · rw [List.filter_cons_of_neg c, List.filter_cons_of_pos (by simp at c; simp [c])]
      simp only [sI]; omega
theorem trn_big (n : Int) (a b c : PT) : trn (big n a) (big n b) (big n c) = n * n * trn a b c := by unfold trn big; dsimp only; grind
theorem pos_ne {a b c : PT} (h : 0 < trn a b c) : a ≠ b ∧ b ≠ c ∧ c ≠ a := by
  refine ⟨fun e => ?_, fun e => ?_, fun e => ?_⟩ <;> subst e <;> unfold trn at h <;> grind
theorem ch_in {sp : List PT} {n : Int} {p : PT} {t : TR} (G : Gen sp n p) (h : triOk sp t) : chT sp n p t = if inTr sp n p t then 1 else 0 := by
  obtain ⟨⟨h1, h2, h3⟩, h4⟩ := h
  obtain ⟨e1, e2, e3⟩ := pos_ne h4
  have := chi_tri (a := big n (spt sp t.1)) (b := big n (spt sp t.2.1)) (c := big n (spt sp t.2.2)) (p := p) (by rw [trn_big]; exact Int.mul_pos (Int.mul_pos G.1 G.1) h4) (G.2 _ _ h1 h2 e1) (G.2 _ _ h2 h3 e2) (G.2 _ _ h3 h1 e3)
  unfold chT
  rw [this]
  unfold nIn
  by_cases c : inTr sp n p t
  · rw [if_pos c]; exact if_pos c
  · rw [if_neg c]; exact if_neg c
theorem cov_sum {sp : List PT} {n : Int} {p : PT} (G : Gen sp n p) : ∀ {tr : List TR}, (∀ t ∈ tr, triOk sp t) → (cov sp tr n p : Int) = sI (chT sp n p) tr
  | [], _ => rfl
  | t :: ts, h => by
    have ih := cov_sum G (tr := ts) fun u hu => h u (List.mem_cons_of_mem _ hu)
    unfold cov at ih ⊢
    simp only [sI]
    rw [ch_in G (h t List.mem_cons_self), ← ih]
    by_cases c : inTr sp n p t
    · rw [if_pos c, List.countP_cons_of_pos (by simpa using c)]; omega
    · rw [if_neg c, List.countP_cons_of_neg (by simpa using c)]; omega
/-- the same sums, the same covers -/
theorem flat_of {sp : List PT} {tr tr' : List TR} (F : Flat sp tr) (h : ∀ t ∈ tr, triOk sp t) (h' : ∀ t ∈ tr', triOk sp t) (e : ∀ n p, Gen sp n p → sI (chT sp n p) tr' = sI (chT sp n p) tr) : Flat sp tr' := fun n p G => by
  have a := F n p G
  have b := cov_sum G h
  have c := cov_sum G h'
  have := e n p G
  omega
/-! a way from corner to corner belongs to one triple alone -/
/-- near the middle of the way from a to b, on its left -/
def nearN (m : Nat) : Int := 2 * ((m : Int) * m)
def nearP (a b : PT) (m : Nat) : PT := ((m : Int) * m * (a.1 + b.1) + 2 * m * (b.1 - a.1) - 2 * (b.2 - a.2), (m : Int) * m * (a.2 + b.2) + 2 * m * (b.2 - a.2) + 2 * (b.1 - a.1))
def qA (a b u v : PT) : Int := (v.1 - u.1) * (a.2 + b.2 - 2 * u.2) - (v.2 - u.2) * (a.1 + b.1 - 2 * u.1)
def qB (a b u v : PT) : Int := 2 * ((v.1 - u.1) * (b.2 - a.2) - (v.2 - u.2) * (b.1 - a.1))
def qC (a b u v : PT) : Int := 2 * ((v.1 - u.1) * (b.1 - a.1) + (v.2 - u.2) * (b.2 - a.2))
theorem near_trn (a b u v : PT) (m : Nat) : trn (big (nearN m) u) (big (nearN m) v) (nearP a b m) = nearN m * (qA a b u v * ((m : Int) * m) + qB a b u v * m + qC a b u v) := by
  unfold trn big nearN nearP qA qB qC
  dsimp only
  generalize (m : Int) = k
  grind
theorem sq_nn' (x : Int) : 0 ≤ x * x := by
  rcases Int.le_total 0 x with h | h
  · exact Int.mul_nonneg h h
  · exact Int.mul_nonneg_of_nonpos_of_nonpos h h
theorem sq_pos {x y : Int} (h : ¬ (x = 0 ∧ y = 0)) : 0 < x * x + y * y := by
  have a := sq_nn' x
  have b := sq_nn' y
  rcases Int.lt_or_eq_of_le a with c | c
  · omega
  · rcases Int.lt_or_eq_of_le b with d | d
    · omega
    · exact absurd ⟨by rcases Int.mul_eq_zero.mp c.symm with h | h <;> exact h, by rcases Int.mul_eq_zero.mp d.symm with h | h <;> exact h⟩ h
theorem near_ne {a b u v : PT} (hab : a ≠ b) (huv : u ≠ v) : ¬ (qA a b u v = 0 ∧ qB a b u v = 0 ∧ qC a b u v = 0) := by
  rintro ⟨_, h2, h3⟩
  unfold qB at h2
  unfold qC at h3
  have nz : ¬ (b.1 - a.1 = 0 ∧ b.2 - a.2 = 0) := fun z => hab (Prod.ext (by omega) (by omega))
  have sp := sq_pos nz
  have e1 : (v.1 - u.1) * ((b.1 - a.1) * (b.1 - a.1) + (b.2 - a.2) * (b.2 - a.2)) = ((v.1 - u.1) * (b.1 - a.1) + (v.2 - u.2) * (b.2 - a.2)) * (b.1 - a.1) + ((v.1 - u.1) * (b.2 - a.2) - (v.2 - u.2) * (b.1 - a.1)) * (b.2 - a.2) := by grind
  have e2 : (v.2 - u.2) * ((b.1 - a.1) * (b.1 - a.1) + (b.2 - a.2) * (b.2 - a.2)) = ((v.1 - u.1) * (b.1 - a.1) + (v.2 - u.2) * (b.2 - a.2)) * (b.2 - a.2) - ((v.1 - u.1) * (b.2 - a.2) - (v.2 - u.2) * (b.1 - a.1)) * (b.1 - a.1) := by grind
  have z1 : (v.1 - u.1) * (b.2 - a.2) - (v.2 - u.2) * (b.1 - a.1) = 0 := by omega
  have z2 : (v.1 - u.1) * (b.1 - a.1) + (v.2 - u.2) * (b.2 - a.2) = 0 := by omega
  rw [z1, z2, Int.zero_mul, Int.zero_mul, Int.add_zero] at e1
  rw [z1, z2, Int.zero_mul, Int.zero_mul, Int.sub_zero] at e2
  have y1 := (Int.mul_eq_zero.mp e1).resolve_right (by omega)
  have y2 := (Int.mul_eq_zero.mp e2).resolve_right (by omega)
  exact huv (Prod.ext (by omega) (by omega))
theorem near_gen {sp : List PT} {a b : PT} (hab : a ≠ b) : Evn fun m => Gen sp (nearN m) (nearP a b m) := by
  have pos : Evn fun m => 0 < nearN m := ⟨1, fun m hm => by
    unfold nearN
    exact Int.mul_pos (by decide) (Int.mul_pos (by omega) (by omega))⟩
  have all : Evn fun m => ∀ i ∈ List.range sp.length, ∀ j ∈ List.range sp.length, spt sp i ≠ spt sp j → qA a b (spt sp i) (spt sp j) * ((m : Int) * m) + qB a b (spt sp i) (spt sp j) * m + qC a b (spt sp i) (spt sp j) ≠ 0 :=
    Evn.all fun i _ => Evn.all fun j _ => by
      by_cases c : spt sp i = spt sp j
      · exact .of fun m z => absurd c z
      · exact (quad_ne (near_ne hab c)).mono fun m z _ => z
  refine (pos.and all).mono fun m ⟨h1, h2⟩ => ⟨h1, fun i j hi hj ne => ?_⟩
  rw [near_trn]
  exact Int.mul_ne_zero (by omega) (h2 i (List.mem_range.mpr hi) j (List.mem_range.mpr hj) ne)
theorem near_in {a b x : PT} (h : 0 < trn a b x) : Evn fun m => inT (big (nearN m) a) (big (nearN m) b) (big (nearN m) x) (nearP a b m) := by
  have hab := (pos_ne h).1
  have pos : Evn fun m => 0 < nearN m := ⟨1, fun m hm => by
    unfold nearN
    exact Int.mul_pos (by decide) (Int.mul_pos (by omega) (by omega))⟩
  have nz : ¬ (b.1 - a.1 = 0 ∧ b.2 - a.2 = 0) := fun z => hab (Prod.ext (by omega) (by omega))
  have sp := sq_pos nz
  have a1 : qA a b b x = trn a b x := by unfold qA trn; grind
  have a2 : qA a b x a = trn a b x := by unfold qA trn; grind
  have q1 := quad_pos (A := qA a b b x) (B := qB a b b x) (C := qC a b b x) (by rw [a1]; exact h)
  have q2 := quad_pos (A := qA a b x a) (B := qB a b x a) (C := qC a b x a) (by rw [a2]; exact h)
  refine (pos.and (q1.and q2)).mono fun m ⟨h1, h2, h3⟩ => ⟨?_, ?_, ?_⟩
  · rw [near_trn]
    have e : qA a b a b * ((m : Int) * m) + qB a b a b * m + qC a b a b = 2 * ((b.1 - a.1) * (b.1 - a.1) + (b.2 - a.2) * (b.2 - a.2)) := by
      unfold qA qB qC
      generalize (m : Int) = k
      grind
    rw [e]
    exact Int.mul_pos h1 (by omega)
  · rw [near_trn]; exact Int.mul_pos h1 h2
  · rw [near_trn]; exact Int.mul_pos h1 h3
theorem inT_rot {a b c p : PT} : inT b c a p ↔ inT a b c p := by unfold inT; omega
theorem near_tri {sp : List PT} {i j : Nat} {t : TR} (h : triOk sp t) (e : hasE i j t = true) : Evn fun m => inTr sp (nearN m) (nearP (spt sp i) (spt sp j) m) t := by
  unfold hasE at e
  simp only [Bool.or_eq_true, Bool.and_eq_true, beq_iff_eq] at e
  have h4 := h.2
  rcases e with (⟨rfl, rfl⟩ | ⟨rfl, rfl⟩) | ⟨rfl, rfl⟩
  · exact near_in h4
  · exact (near_in (x := spt sp t.1) (by rw [trn_rot]; exact h4)).mono fun m z => inT_rot.mp z
  · exact (near_in (x := spt sp t.2.1) (by rw [trn_rot, trn_rot]; exact h4)).mono fun m z => inT_rot.mp (inT_rot.mp z)
theorem has_ok {sp : List PT} {i j : Nat} {t : TR} (h : triOk sp t) (e : hasE i j t = true) : i < sp.length ∧ j < sp.length ∧ spt sp i ≠ spt sp j := by
  unfold hasE at e
  simp only [Bool.or_eq_true, Bool.and_eq_true, beq_iff_eq] at e
  obtain ⟨⟨h1, h2, h3⟩, h4⟩ := h
  obtain ⟨e1, e2, e3⟩ := pos_ne h4
  rcases e with (⟨rfl, rfl⟩ | ⟨rfl, rfl⟩) | ⟨rfl, rfl⟩
  · exact ⟨h1, h2, e1⟩
  · exact ⟨h2, h3, e2⟩
  · exact ⟨h3, h1, e3⟩
theorem one_edge {sp : List PT} {tr : List TR} (F : Flat sp tr) (ho : ∀ t ∈ tr, triOk sp t) (i j : Nat) : tr.countP (hasE i j) ≤ 1 := by
  by_cases c : ∃ t ∈ tr, hasE i j t = true
  · obtain ⟨t, ht, e⟩ := c
    obtain ⟨_, _, ne⟩ := has_ok (ho t ht) e
    have all : Evn fun m => ∀ t ∈ tr, hasE i j t = true → inTr sp (nearN m) (nearP (spt sp i) (spt sp j) m) t := Evn.all fun t ht => by
      by_cases c : hasE i j t = true
      · exact (near_tri (ho t ht) c).mono fun m z _ => z
      · exact .of fun m z => absurd z c
    obtain ⟨m, _, g, h⟩ := ((near_gen (sp := sp) ne).and all).get
    refine Nat.le_trans (List.countP_mono_left fun t ht e => ?_) (F _ _ g)
    exact decide_eq_true (h t ht e)
  · have : tr.countP (hasE i j) = 0 := List.countP_eq_zero.mpr fun t ht z => c ⟨t, ht, z⟩
    omega
/-! what keeps the sums -/
theorem ch_rot {sp : List PT} {n : Int} {p : PT} {t u : TR} (r : rotT t u) : chT sp n p u = chT sp n p t := by
  cases r with
  | zero => rfl
  | one => unfold chT; dsimp only; omega
  | two => unfold chT; dsimp only; omega
theorem rot_chs {sp : List PT} {n : Int} {p : PT} {ts us : List TR} (h : RotL ts us) : sI (chT sp n p) us = sI (chT sp n p) ts := by
  induction h with
  | nil => rfl
  | cons a _ ih => simp only [sI, ih, ch_rot a]
theorem sI_two {α : Type} {f : α → Int} {q a b : α → Bool} : ∀ {xs : List α}, (∀ x ∈ xs, q x = (a x || b x)) → (∀ x ∈ xs, a x = true → b x = true → False) → sI f (xs.filter q) = sI f (xs.filter a) + sI f (xs.filter b)
  | [], _, _ => rfl
  | x :: xs, h, g => by
    have ih := sI_two (f := f) (fun y hy => h y (List.mem_cons_of_mem _ hy)) fun y hy => g y (List.mem_cons_of_mem _ hy)
    have e := h x List.mem_cons_self
    have d := g x List.mem_cons_self
    by_cases ca : a x = true
    · have cb : ¬ b x = true := fun z => d ca z
      rw [List.filter_cons_of_pos (by rw [e, ca]; rfl), List.filter_cons_of_pos ca, List.filter_cons_of_neg cb]
      simp only [sI]; omega
    · by_cases cb : b x = true
      · rw [List.filter_cons_of_pos (by rw [e, cb, Bool.or_true]), List.filter_cons_of_neg ca, List.filter_cons_of_pos cb]
        simp only [sI]; omega
      · rw [List.filter_cons_of_neg (by rw [e]; simp [ca, cb]), List.filter_cons_of_neg ca, List.filter_cons_of_neg cb]
        exact ih
theorem one_of {α : Type} {q : α → Bool} {x : α} : ∀ {xs : List α}, xs.countP q ≤ 1 → x ∈ xs → q x = true → xs.filter q = [x]
  | [], _, h, _ => by cases h
  | y :: ys, hc, h, e => by
    by_cases c : q y = true
    · rw [List.countP_cons_of_pos c] at hc
      have z : ys.countP q = 0 := by omega
      have none : ys.filter q = [] := List.filter_eq_nil_iff.mpr fun u hu => List.countP_eq_zero.mp z u hu
      rw [List.filter_cons_of_pos c, none]
      rcases List.mem_cons.mp h with rfl | h
      · rfl
      · exact absurd e (List.countP_eq_zero.mp z x h)
    · rw [List.filter_cons_of_neg c]
      rw [List.countP_cons_of_neg c] at hc
      rcases List.mem_cons.mp h with rfl | h
      · exact absurd e c
      · exact one_of hc h e
theorem uniq_edge {tr : List TR} {i j : Nat} {t u : TR} (h : tr.countP (hasE i j) ≤ 1) (ht : t ∈ tr) (hu : u ∈ tr) (a : hasE i j t = true) (b : hasE i j u = true) : t = u := by
  have e1 := one_of h ht a
  have e2 := one_of h hu b
  rw [e1] at e2
  injection e2
def perT (t : TR) (i j k : Nat) : Prop := [t.1, t.2.1, t.2.2].Perm [i, j, k]
/-- the same corners: turned left, the same triple -/
theorem per_rot {sp : List PT} {t : TR} {i j k : Nat} (h : triOk sp t) (h' : triOk sp (i, j, k)) (p : perT t i j k) : rotT (i, j, k) t := by
  obtain ⟨x, y, z⟩ := t
  obtain ⟨_, p1⟩ := h
  obtain ⟨_, p2⟩ := h'
  unfold perT at p
  dsimp only at p p1 p2
  have hx : x = i ∨ x = j ∨ x = k := by simpa using p.mem_iff (a := x) |>.mp List.mem_cons_self
  have n1 : x ≠ y := fun e => (pos_ne p1).1 (by rw [e])
  have n2 : y ≠ z := fun e => (pos_ne p1).2.1 (by rw [e])
  have n3 : z ≠ x := fun e => (pos_ne p1).2.2 (by rw [e])
  have hy : y = i ∨ y = j ∨ y = k := by simpa using p.mem_iff (a := y) |>.mp (by simp)
  have hz : z = i ∨ z = j ∨ z = k := by simpa using p.mem_iff (a := z) |>.mp (by simp)
  have s : ∀ a b c : PT, trn b a c = -trn a b c := fun a b c => trn_swap a b c
  have m1 : 0 < trn (spt sp i) (spt sp j) (spt sp k) := p2
  have m2 := trn_rot (spt sp i) (spt sp j) (spt sp k)
  have m3 := trn_rot (spt sp j) (spt sp k) (spt sp i)
  have q1 := s (spt sp i) (spt sp j) (spt sp k)
  have q2 := s (spt sp j) (spt sp k) (spt sp i)
  have q3 := s (spt sp k) (spt sp i) (spt sp j)
  rcases hx with rfl | rfl | rfl <;> rcases hy with rfl | rfl | rfl <;> rcases hz with rfl | rfl | rfl <;> first | exact absurd rfl n1 | exact absurd rfl n2 | exact absurd rfl n3 | exact .zero | exact .one | exact .two | (exfalso; omega)
theorem rot_per {t u : TR} (r : rotT t u) : perT u t.1 t.2.1 t.2.2 := by
  obtain ⟨x, y, z⟩ := t
  unfold perT
  cases r with
  | zero => exact .refl _
  | one => exact (List.perm_append_comm (l₁ := [y, z]) (l₂ := [x]))
  | two => exact (List.perm_append_comm (l₁ := [z]) (l₂ := [x, y]))
theorem rot_has {i j k : Nat} {t : TR} (r : rotT (i, j, k) t) : hasE i j t = true := by
  cases r <;> simp [hasE]
theorem has_rot {i j : Nat} {t : TR} (h : hasE i j t = true) : ∃ k, rotT (i, j, k) t := by
  obtain ⟨x, y, z⟩ := t
  unfold hasE at h
  simp only [Bool.or_eq_true, Bool.and_eq_true, beq_iff_eq] at h
  rcases h with (⟨rfl, rfl⟩ | ⟨rfl, rfl⟩) | ⟨rfl, rfl⟩
  · exact ⟨z, .zero⟩
  · exact ⟨x, .two⟩
  · exact ⟨y, .one⟩
/-- a flip: what goes and what comes -/
structure FlipT (sp : List PT) (tr : List TR) (pr : TR → Bool) (i j l r : Nat) (T1 T2 : TR) : Prop where
  m1 : T1 ∈ tr
  m2 : T2 ∈ tr
  r1 : rotT (i, j, l) T1
  r2 : rotT (j, i, r) T2
  go : ∀ t ∈ tr, pr t = false ↔ perT t i j l ∨ perT t i j r
section
variable {sp : List PT} {tr : List TR} {pr : TR → Bool} {i j l r : Nat} {T1 T2 : TR}
theorem rot_back {t u : TR} (R : rotT t u) : rotT u t := by
  cases R with
  | zero => exact .zero
  | one => exact .two
  | two => exact .one
theorem flip_drop (C : FlipT sp tr pr i j l r T1 T2) (ho : ∀ t ∈ tr, triOk sp t) (F : Flat sp tr) : (∀ t ∈ tr, (!pr t) = (hasE i j t || hasE j i t)) ∧ (∀ t ∈ tr, hasE i j t = true → hasE j i t = true → False) := by
  have o1 := rot_ok (ho _ C.m1) (rot_back C.r1)
  have o2 := rot_ok (ho _ C.m2) (rot_back C.r2)
  have u1 := one_edge F ho i j
  have u2 := one_edge F ho j i
  refine ⟨fun t ht => ?_, fun t ht a b => ?_⟩
  · rw [Bool.eq_iff_iff, Bool.not_eq_true', C.go t ht, Bool.or_eq_true]
    constructor
    · rintro (p | p)
      · exact .inl (rot_has (per_rot (ho t ht) o1 p))
      · have p' : perT t j i r := p.trans (List.Perm.swap j i [r])
        exact .inr (rot_has (per_rot (ho t ht) o2 p'))
    · rintro (h | h)
      · have e := uniq_edge u1 ht C.m1 h (rot_has C.r1)
        rw [e]
        exact .inl (rot_per C.r1)
      · have e := uniq_edge u2 ht C.m2 h (rot_has C.r2)
        rw [e]
        exact .inr ((rot_per C.r2).trans (List.Perm.swap i j [r]))
  · obtain ⟨⟨h1, h2, h3⟩, h4⟩ := ho t ht
    obtain ⟨n1, n2, n3⟩ := pos_ne h4
    have d1 : t.1 ≠ t.2.1 := fun e => n1 (by rw [e])
    have d2 : t.2.1 ≠ t.2.2 := fun e => n2 (by rw [e])
    have d3 : t.2.2 ≠ t.1 := fun e => n3 (by rw [e])
    unfold hasE at a b
    simp only [Bool.or_eq_true, Bool.and_eq_true, beq_iff_eq] at a b
    omega
theorem flip_len (C : FlipT sp tr pr i j l r T1 T2) (ho : ∀ t ∈ tr, triOk sp t) (F : Flat sp tr) : (tr.filter pr).length + 2 = tr.length := by
  obtain ⟨a, b⟩ := flip_drop C ho F
  have e1 := one_of (one_edge F ho i j) C.m1 (rot_has C.r1)
  have e2 := one_of (one_edge F ho j i) C.m2 (rot_has C.r2)
  have s := sI_two (f := fun _ : TR => (1 : Int)) a b
  rw [e1, e2] at s
  have q := sI_filter (fun _ : TR => (1 : Int)) pr tr
  rw [s] at q
  have c : ∀ xs : List TR, sI (fun _ => (1 : Int)) xs = xs.length := fun xs => by
    induction xs with
    | nil => rfl
    | cons x xs ih => simp only [sI, ih, List.length_cons]; omega
  rw [c, c] at q
  simp only [sI] at q
  omega
theorem flip_flat (C : FlipT sp tr pr i j l r T1 T2) (ho : ∀ t ∈ tr, triOk sp t) (F : Flat sp tr) (ho' : ∀ t ∈ tr.filter pr ++ [(r, j, l), (r, l, i)], triOk sp t) : Flat sp (tr.filter pr ++ [(r, j, l), (r, l, i)]) := by
  obtain ⟨a, b⟩ := flip_drop C ho F
  have e1 := one_of (one_edge F ho i j) C.m1 (rot_has C.r1)
  have e2 := one_of (one_edge F ho j i) C.m2 (rot_has C.r2)
  refine flat_of F ho ho' fun n p _ => ?_
  have s := sI_two (f := chT sp n p) a b
  rw [e1, e2] at s
  have q := sI_filter (chT sp n p) pr tr
  rw [s] at q
  rw [q, sI_app]
  simp only [sI, ch_rot C.r1, ch_rot C.r2]
  unfold chT
  dsimp only
  rw [chi_anti (big n (spt sp i)) (big n (spt sp j)), chi_anti (big n (spt sp r)) (big n (spt sp l))]
  omega
end
theorem gen_app {sp : List PT} {z : PT} {n : Int} {p : PT} (G : Gen (sp ++ [z]) n p) : Gen sp n p := ⟨G.1, fun i j hi hj ne => by
  have := G.2 i j (by rw [List.length_append]; omega) (by rw [List.length_append]; omega)
  rw [spt_app hi, spt_app hj] at this
  exact this ne⟩
theorem ch_app {sp : List PT} {z : PT} {n : Int} {p : PT} {t : TR} (h : triIn sp.length t) : chT (sp ++ [z]) n p t = chT sp n p t := by
  unfold chT
  rw [spt_app h.1, spt_app h.2.1, spt_app h.2.2]
theorem sI_congr {α : Type} {f g : α → Int} : ∀ {xs : List α}, (∀ x ∈ xs, f x = g x) → sI f xs = sI g xs
  | [], _ => rfl
  | x :: xs, h => by simp only [sI, h x List.mem_cons_self, sI_congr fun y hy => h y (List.mem_cons_of_mem _ hy)]
theorem split_flat {sp : List PT} {tr : List TR} {z : PT} {k : Nat} {t0 u : TR} (F : Flat sp tr) (ho : ∀ t ∈ tr, triOk sp t) (h0 : tr[k]? = some t0) (r0 : rotT t0 u)
    (ho' : ∀ t ∈ tr.take k ++ tr.drop (k + 1) ++ [(u.1, u.2.1, sp.length), (u.2.1, u.2.2, sp.length), (u.2.2, u.1, sp.length)], triOk (sp ++ [z]) t) :
    Flat (sp ++ [z]) (tr.take k ++ tr.drop (k + 1) ++ [(u.1, u.2.1, sp.length), (u.2.1, u.2.2, sp.length), (u.2.2, u.1, sp.length)]) := fun n p G => by
  have G0 := gen_app G
  have a := F n p G0
  have b := cov_sum G0 ho
  have c := cov_sum G ho'
  have hk : k < tr.length := (List.getElem?_eq_some_iff.mp h0).1
  have e : tr = tr.take k ++ (t0 :: tr.drop (k + 1)) := by
    have := List.take_append_drop k tr
    rw [List.drop_eq_getElem_cons hk, (List.getElem?_eq_some_iff.mp h0).2] at this
    exact this.symm
  have s : sI (chT sp n p) tr = sI (chT sp n p) (tr.take k) + (chT sp n p t0 + sI (chT sp n p) (tr.drop (k + 1))) := by
    conv => lhs; rw [e]
    rw [sI_app]; rfl
  have w1 : sI (chT (sp ++ [z]) n p) (tr.take k) = sI (chT sp n p) (tr.take k) := sI_congr fun t ht => ch_app (ho t (List.mem_of_mem_take ht)).1
  have w2 : sI (chT (sp ++ [z]) n p) (tr.drop (k + 1)) = sI (chT sp n p) (tr.drop (k + 1)) := sI_congr fun t ht => ch_app (ho t (List.mem_of_mem_drop ht)).1
  have hu := rot_ok (ho t0 (List.mem_of_getElem? h0)) r0
  have w3 : chT sp n p t0 = chT (sp ++ [z]) n p u := by rw [ch_app hu.1, ch_rot r0]
  rw [sI_app, sI_app, w1, w2] at c
  have w4 : sI (chT (sp ++ [z]) n p) [(u.1, u.2.1, sp.length), (u.2.1, u.2.2, sp.length), (u.2.2, u.1, sp.length)] = chT (sp ++ [z]) n p u := by
    simp only [sI]
    unfold chT
    dsimp only
    rw [chi_anti (big n (spt (sp ++ [z]) u.1)) (big n (spt (sp ++ [z]) sp.length)), chi_anti (big n (spt (sp ++ [z]) u.2.1)) (big n (spt (sp ++ [z]) sp.length)), chi_anti (big n (spt (sp ++ [z]) u.2.2)) (big n (spt (sp ++ [z]) sp.length))]
    omega
  rw [w4] at c
  omega
/-! triples on both sides of a line -/
def Dis (sp : List PT) (t u : TR) : Prop := ∀ (n : Int) (p : PT), 0 < n → ¬ (inTr sp n p t ∧ inTr sp n p u)
theorem Dis.symm {sp : List PT} {t u : TR} (h : Dis sp t u) : Dis sp u t := fun n p hn z => h n p hn ⟨z.2, z.1⟩
theorem flat_pw {sp : List PT} {tr : List TR} (h : tr.Pairwise (Dis sp)) : Flat sp tr := fun n p G => by
  unfold cov
  induction h with
  | nil => exact Nat.zero_le _
  | @cons t ts h1 _ ih =>
    by_cases c : inTr sp n p t
    · rw [List.countP_cons_of_pos (by simpa using c)]
      have : ts.countP (fun t => decide (inTr sp n p t)) = 0 := List.countP_eq_zero.mpr fun u hu z => h1 u hu n p G.1 ⟨c, of_decide_eq_true z⟩
      omega
    · rw [List.countP_cons_of_neg (by simpa using c)]; exact ih
theorem bary (a b u v w p : PT) : trn v w p * trn a b u + trn w u p * trn a b v + trn u v p * trn a b w = trn u v w * trn a b p := by
  unfold trn
  obtain ⟨a1, a2⟩ := a
  obtain ⟨b1, b2⟩ := b
  obtain ⟨u1, u2⟩ := u
  obtain ⟨v1, v2⟩ := v
  obtain ⟨w1, w2⟩ := w
  obtain ⟨p1, p2⟩ := p
  dsimp only
  grind
theorem on_line {a b u v w : PT} (h1 : trn a b u = 0) (h2 : trn a b v = 0) (h3 : trn a b w = 0) (hT : 0 < trn u v w) : a = b := by
  have e1 : (b.1 - a.1) * trn u v w = (v.1 - u.1) * (trn a b w - trn a b u) - (w.1 - u.1) * (trn a b v - trn a b u) := by unfold trn; grind
  have e2 : (b.2 - a.2) * trn u v w = (v.2 - u.2) * (trn a b w - trn a b u) - (w.2 - u.2) * (trn a b v - trn a b u) := by unfold trn; grind
  rw [h1, h2, h3] at e1 e2
  simp only [Int.sub_self, Int.mul_zero] at e1 e2
  have y1 := (Int.mul_eq_zero.mp e1).resolve_right (by omega)
  have y2 := (Int.mul_eq_zero.mp e2).resolve_right (by omega)
  exact Prod.ext (by omega) (by omega)
theorem side_le {a b u v w p : PT} {n : Int} (hn : 0 < n) (h : inT (big n u) (big n v) (big n w) p) (hT : 0 < trn u v w) (ne : a ≠ b) (h1 : trn a b u ≤ 0) (h2 : trn a b v ≤ 0) (h3 : trn a b w ≤ 0) : trn (big n a) (big n b) p < 0 := by
  obtain ⟨l1, l2, l3⟩ := h
  have e := bary (big n a) (big n b) (big n u) (big n v) (big n w) p
  rw [trn_big, trn_big, trn_big, trn_big] at e
  have nn := Int.mul_pos hn hn
  have s : ∀ {x y : Int}, 0 < x → y ≤ 0 → x * (n * n * y) ≤ 0 ∧ (x * (n * n * y) = 0 → y = 0) := fun {x y} hx hy =>
    ⟨Int.mul_nonpos_of_nonneg_of_nonpos (by omega) (Int.mul_nonpos_of_nonneg_of_nonpos (by omega) hy), fun z => (Int.mul_eq_zero.mp ((Int.mul_eq_zero.mp z).resolve_left (by omega))).resolve_left (by omega)⟩
  obtain ⟨a1, b1⟩ := s l2 h1
  obtain ⟨a2, b2⟩ := s l3 h2
  obtain ⟨a3, b3⟩ := s l1 h3
  rcases Int.lt_or_le (trn (big n a) (big n b) p) 0 with c | c
  · exact c
  · exfalso
    have q : 0 ≤ n * n * trn u v w * trn (big n a) (big n b) p := Int.mul_nonneg (Int.le_of_lt (Int.mul_pos nn hT)) c
    exact ne (on_line (b1 (by omega)) (b2 (by omega)) (b3 (by omega)) hT)
theorem side_ge {a b u v w p : PT} {n : Int} (hn : 0 < n) (h : inT (big n u) (big n v) (big n w) p) (hT : 0 < trn u v w) (h1 : 0 ≤ trn a b u) (h2 : 0 ≤ trn a b v) (h3 : 0 ≤ trn a b w) : 0 ≤ trn (big n a) (big n b) p := by
  obtain ⟨l1, l2, l3⟩ := h
  have e := bary (big n a) (big n b) (big n u) (big n v) (big n w) p
  rw [trn_big, trn_big, trn_big, trn_big] at e
  have nn := Int.mul_pos hn hn
  have s : ∀ {x y : Int}, 0 < x → 0 ≤ y → 0 ≤ x * (n * n * y) := fun {x y} hx hy => Int.mul_nonneg (by omega) (Int.mul_nonneg (by omega) hy)
  have a1 := s l2 h1
  have a2 := s l3 h2
  have a3 := s l1 h3
  rcases Int.lt_or_le (trn (big n a) (big n b) p) 0 with c | c
  · exfalso
    have q : n * n * trn u v w * trn (big n a) (big n b) p < 0 := Int.mul_neg_of_pos_of_neg (Int.mul_pos nn hT) c
    omega
  · exact c
/-- one triple on the right of a line, the other one on its left -/
theorem sep_line {sp : List PT} {t u : TR} {a b : PT} (ht : 0 < trn (spt sp t.1) (spt sp t.2.1) (spt sp t.2.2)) (hu : 0 < trn (spt sp u.1) (spt sp u.2.1) (spt sp u.2.2)) (ne : a ≠ b)
    (h1 : trn a b (spt sp t.1) ≤ 0 ∧ trn a b (spt sp t.2.1) ≤ 0 ∧ trn a b (spt sp t.2.2) ≤ 0) (h2 : 0 ≤ trn a b (spt sp u.1) ∧ 0 ≤ trn a b (spt sp u.2.1) ∧ 0 ≤ trn a b (spt sp u.2.2)) : Dis sp t u := fun n p hn ⟨x, y⟩ => by
  have := side_le hn x ht ne h1.1 h1.2.1 h1.2.2
  have := side_ge (a := a) (b := b) hn y hu h2.1 h2.2.1 h2.2.2
  omega
theorem ok_di (a b : Int) : okD (.tup [.int a, .int b]) = true := by
  unfold okD SeqAt.shaped
  simp [noref, norefL, toP, toPL, PyData.canLay0, PyData.canLayAll0, PyData.depth, PyData.depthAll]
theorem eqv_tups (ms ks : List Int) : PyData.eqv (toP (.tup (ms.map D.int))) (toP (.tup (ks.map D.int))) = decide (ms = ks) := by
  simp only [toP, PyData.eqv, toPL_int]
  exact PySem.W.eqvAll_map ms ks
theorem oeq_di {a b c d : Int} {S : Sto} {P : PD} (h : P (.bl (decide (a = c ∧ b = d))) S) : oEq (.tup [.int a, .int b]) (.tup [.int c, .int d]) S P := by
  refine ⟨ok_di a b, ok_di c d, ?_⟩
  have e := eqv_tups [a, b] [c, d]
  have e2 : decide ([a, b] = [c, d]) = decide (a = c ∧ b = d) := by
    rw [decide_eq_decide]
    simp
  rw [e2] at e
  show P (.bl (PyData.eqv (toP (.tup ([a, b].map D.int))) (toP (.tup ([c, d].map D.int))))) S
  rw [e]; exact h
theorem not_has {i j : Nat} {t : TR} (h1 : ¬ ((t.1 : Int) = i ∧ (t.2.1 : Int) = j)) (h2 : ¬ ((t.2.1 : Int) = i ∧ (t.2.2 : Int) = j)) (h3 : ¬ ((t.2.2 : Int) = i ∧ (t.1 : Int) = j)) : hasE i j t = false := by
  rw [Bool.eq_false_iff]
  intro h
  unfold hasE at h
  simp only [Bool.or_eq_true, Bool.and_eq_true, beq_iff_eq] at h
  omega
theorem third_loop {E : EndD} {Y : XS} {S : Sto} {i j : Nat} {z : D} {tr : List TR} (hk : ∀ (k : Nat) (t : TR), t ∈ tr → rotT (i, j, k) t → E.rt (.int (k : Int)) S) (hn : (∀ t ∈ tr, hasE i j t = false) → ∀ a b c, E.nx [some z, some (.int (i : Int)), some (.int (j : Int)), a, b, c] S) :
    ∀ (ts pre : List TR) (a b c : Option D), pre ++ ts = tr → (∀ t ∈ pre, hasE i j t = false) →
    loopD (gTupD 3 (gConsD (gVar 3) (gConsD (gVar 4) (gConsD (gVar 5) gNilD)))) w__law_third_8 E Y (ts.map TD) [some z, some (.int (i : Int)), some (.int (j : Int)), a, b, c] S
  | [], pre, a, b, c, e, hp => hn (by rw [← e, List.append_nil]; exact hp) a b c
  | t :: ts, pre, a, b, c, e, hp => by
    have ht : t ∈ tr := by rw [← e]; simp
    rw [List.map_cons, xloop]
    show gTupD 3 _ (.lst [.int (t.1 : Int), .int (t.2.1 : Int), .int (t.2.2 : Int)]) _ _ _ _
    rw [g3l]
    simp only [List.set_cons_succ, List.set_cons_zero, w__law_third_8, xseq, w__law_third_7, xsif, xbl, x2, xtup, xcons, xnil, v1, v2, v3, v4, PL.v5]
    refine ⟨two_line, two_line, oeq_di ?_⟩
    by_cases c1 : (t.1 : Int) = i ∧ (t.2.1 : Int) = j
    · simp only [decide_eq_true c1, if_true, w__law_third_6, xret, PL.v5]
      refine hk _ t ht ?_
      obtain ⟨q1, q2⟩ := c1
      rw [show i = t.1 by omega, show j = t.2.1 by omega]
      exact .zero
    · simp only [decide_eq_false c1, Bool.false_eq_true, if_false, xskip, w__law_third_5, xseq, w__law_third_4, xsif, xbl, x2, xtup, xcons, xnil, v1, v2, v3, v4, PL.v5]
      refine ⟨two_line, two_line, oeq_di ?_⟩
      by_cases c2 : (t.2.1 : Int) = i ∧ (t.2.2 : Int) = j
      · simp only [decide_eq_true c2, if_true, w__law_third_3, xret, v3]
        refine hk _ t ht ?_
        obtain ⟨q1, q2⟩ := c2
        rw [show i = t.2.1 by omega, show j = t.2.2 by omega]
        exact .two
      · simp only [decide_eq_false c2, Bool.false_eq_true, if_false, xskip, w__law_third_2, xseq, xsif, xbl, x2, xtup, xcons, xnil, v1, v2, v3, v4, PL.v5]
        refine ⟨two_line, two_line, oeq_di ?_⟩
        by_cases c3 : (t.2.2 : Int) = i ∧ (t.1 : Int) = j
        · simp only [decide_eq_true c3, if_true, w__law_third_1, xret, v4]
          refine hk _ t ht ?_
          obtain ⟨q1, q2⟩ := c3
          rw [show i = t.2.2 by omega, show j = t.1 by omega]
          exact .one
        · simp only [decide_eq_false c3, Bool.false_eq_true, if_false, xskip]
          refine third_loop hk hn ts (pre ++ [t]) _ _ _ (by rw [List.append_assoc]; exact e) fun u hu => ?_
          rcases List.mem_append.mp hu with hu | hu
          · exact hp u hu
          · rw [List.mem_singleton.mp hu]; exact not_has c1 c2 c3
theorem does__law_third : Does c__law_third w__law_third N__law_third 3 := by
  rintro ds S P X ⟨tr, i, j, rfl, h0, h1⟩
  refine ⟨rfl, ?_⟩
  show w__law_third_10 _ _ [some (RT tr), some (.int (i : Int)), some (.int (j : Int)), none, none, none] S
  simp only [w__law_third_10, xseq, w__law_third_9, xfor, xitems, v0]
  show loopD _ _ _ _ (tr.map TD) _ _
  refine third_loop (tr := tr) ?_ ?_ tr [] _ _ _ rfl (fun t ht => by cases ht)
  · intro k t ht r
    exact ⟨S, Sub.refl _, h1 k t ht r⟩
  · intro hno a b c
    simp only [w__law_third_0, xret, xc]
    exact ⟨S, Sub.refl _, h0 hno⟩
theorem k_third {tr : List TR} {i j : Nat} {S : Sto} {P : PD} {X : PX} (h : ∀ d, (d = .non ∧ (∀ t ∈ tr, hasE i j t = false)) ∨ (∃ (k : Nat) (t : TR), t ∈ tr ∧ rotT (i, j, k) t ∧ d = .int (k : Int)) → P d S) : c__law_third [RT tr, .int (i : Int), .int (j : Int)] S P X :=
  ⟨tr, i, j, rfl, fun hn => h _ (.inl ⟨rfl, hn⟩), fun k t ht r => h _ (.inr ⟨k, t, ht, r, rfl⟩)⟩
theorem rs_at {sp : List PT} {k : Nat} {S : Sto} {P : PD} (h : k < sp.length) : oIdx (RS sp) (.int (k : Int)) S P = P (DI (spt sp k)) S := by
  refine lx ?_
  rw [List.getElem?_map, getD_at (d := ((0 : Int), (0 : Int))) h]; rfl
theorem bd_at {b : Nat} {sp : List PT} (h : bdP b sp) {k : Nat} (hk : k < sp.length) : (spt sp k).1.natAbs ≤ b ∧ (spt sp k).2.natAbs ≤ b := by
  exact h _ (getD_mem hk)
theorem sort_sh {w : Nat} {ds : List D} (h : ∀ d ∈ ds, Sh 0 w d) : Sh 1 (ds.length * (w + 2) + 4) (.lst (ds.mergeSort leD)) := by
  have := ShL.all (ds := ds.mergeSort leD) (k := 0) (w := w) fun d hd => h d (List.mem_mergeSort.mp hd)
  rw [List.length_mergeSort] at this
  exact this.lst
theorem sh_nat {k : Nat} (h : k ≤ 1000) : Sh 0 23 (.int (k : Int)) := Sh.int (n := 20) (bd_s (by omega) (by decide)) (by decide)
theorem srt3 (i j k : Int) : srtI [.int i, .int j, .int k] := ⟨[i, j, k], rfl⟩
theorem k_sort {ds : List D} {S : Sto} {P : PD} (h : srtI ds) (k : P (.lst (ds.mergeSort leD)) S) : oSorted [.lst ds] S P := ⟨ds, rfl, .inl h, k⟩
theorem sort_ints (ns : List Int) : ∃ ms : List Int, (ns.map D.int).mergeSort leD = ms.map D.int ∧ ms.Perm ns :=
  ⟨ns.mergeSort fun a b => leD (.int a) (.int b), (List.map_mergeSort (r := fun a b => leD (.int a) (.int b)) (s := leD) (f := D.int) fun _ _ _ _ => rfl).symm, List.mergeSort_perm _ _⟩
theorem eqv_lists (ms ks : List Int) : PyData.eqv (toP (.lst (ms.map D.int))) (toP (.lst (ks.map D.int))) = decide (ms = ks) := by
  simp only [toP, PyData.eqv, toPL_int]
  exact PySem.W.eqvAll_map ms ks
theorem leD_int (a b : Int) : leD (.int a) (.int b) = decide (a ≤ b) := congrFun (congrFun (PySem.W.dataLe_int (fun x : Int => x)) a) b
theorem asc_eq : ∀ {l k : List Int}, l.Perm k → l.Pairwise (· ≤ ·) → k.Pairwise (· ≤ ·) → l = k
  | [], k, h, _, _ => (List.nil_perm.mp h).symm
  | a :: l, [], h, _, _ => absurd (List.perm_nil.mp h) (by simp)
  | a :: l, b :: k, h, hl, hk => by
    rw [List.pairwise_cons] at hl hk
    have m1 : b ∈ a :: l := h.mem_iff.mpr List.mem_cons_self
    have m2 : a ∈ b :: k := h.mem_iff.mp List.mem_cons_self
    have e : a = b := by
      rcases List.mem_cons.mp m1 with e | m1
      · exact e.symm
      · rcases List.mem_cons.mp m2 with e | m2
        · exact e
        · have := hl.1 b m1
          have := hk.1 a m2
          omega
    subst e
    rw [asc_eq (List.Perm.cons_inv h) hl.2 hk.2]
theorem sort_asc (ns : List Int) : (ns.mergeSort fun a b => leD (.int a) (.int b)).Pairwise (· ≤ ·) := by
  have e : (fun a b : Int => leD (.int a) (.int b)) = fun a b => decide (a ≤ b) := by funext a b; exact leD_int a b
  rw [e]
  have := List.pairwise_mergeSort (le := fun a b : Int => decide (a ≤ b)) (fun a b c h g => decide_eq_true (Int.le_trans (of_decide_eq_true h) (of_decide_eq_true g))) (fun a b => by
    rcases Int.le_total a b with h | h <;> simp [h]) ns
  exact this.imp fun h => of_decide_eq_true h
theorem sort_int (ns : List Int) : (ns.map D.int).mergeSort leD = (ns.mergeSort fun a b => leD (.int a) (.int b)).map D.int := (List.map_mergeSort (r := fun a b => leD (.int a) (.int b)) (s := leD) (f := D.int) fun _ _ _ _ => rfl).symm
/-- sorted alike just if they are the same numbers -/
theorem sort_same (ns ms : List Int) : PyData.eqv (toP (.lst ((ns.map D.int).mergeSort leD))) (toP (.lst ((ms.map D.int).mergeSort leD))) = true ↔ ns.Perm ms := by
  rw [sort_int, sort_int, eqv_lists, decide_eq_true_eq]
  refine ⟨fun h => ?_, fun h => ?_⟩
  · have a := List.mergeSort_perm ns fun a b => leD (.int a) (.int b)
    have b := List.mergeSort_perm ms fun a b => leD (.int a) (.int b)
    exact a.symm.trans (h ▸ b)
  · refine asc_eq ?_ (sort_asc ns) (sort_asc ms)
    exact (List.mergeSort_perm ns _).trans (h.trans (List.mergeSort_perm ms _).symm)
theorem perm_nat {a b : List Nat} (h : (a.map fun n : Nat => (n : Int)).Perm (b.map fun n : Nat => (n : Int))) : a.Perm b := by
  have := h.map Int.toNat
  rw [List.map_map, List.map_map] at this
  have e : (Int.toNat ∘ fun n : Nat => (n : Int)) = id := by funext n; simp
  rw [e, List.map_id, List.map_id] at this
  exact this
theorem sort_per (t : TR) (i j k : Nat) : PyData.eqv (toP (.lst (List.mergeSort [.int (i : Int), .int (j : Int), .int (k : Int)] leD))) (toP (.lst (List.mergeSort [.int (t.1 : Int), .int (t.2.1 : Int), .int (t.2.2 : Int)] leD))) = true ↔ perT t i j k := by
  have := sort_same [(i : Int), j, k] [(t.1 : Int), t.2.1, t.2.2]
  simp only [List.map_cons, List.map_nil] at this
  rw [this]
  unfold perT
  refine ⟨fun h => ?_, fun h => ?_⟩
  · exact (perm_nat (a := [i, j, k]) (b := [t.1, t.2.1, t.2.2]) h).symm
  · exact (h.map fun n : Nat => (n : Int)).symm
theorem tri3 {a b c : D} : [a, b, c].length ≤ sizeLine := le_line (by simp)
theorem does__law_other : Does c__law_other w__law_other N__law_other 4 := by
  rintro ds S P X ⟨b, n, m, sp, tr, i, j, rfl, ⟨hb, hn, hm⟩, M, hi, hj, h0, h1⟩
  refine ⟨rfl, ?_⟩
  show w__law_other_10 _ _ [some (RS sp), some (RT tr), some (.int (i : Int)), some (.int (j : Int)), none, none, none, none] S
  have hin : ∀ t ∈ tr, triIn sp.length t := fun t ht => (M.ok t ht).1
  have sl := M.ls
  have tl := M.lt
  simp only [w__law_other_10, xseq, w__law_other_9, xpar2, xcall, xcons, xnil, v1, v2, v3]
  refine k_third fun l hl => k_third fun r hr => ?_
  simp only [List.set_cons_succ, List.set_cons_zero, w__law_other_8, xseq, w__law_other_7, xsif, xorB, xbl, x2, PL.v5, v6, xc, oisN]
  rcases hl with ⟨rfl, _⟩ | ⟨l, T1, m1, r1, rfl⟩
  · simp only [PL.isNon, if_true, w__law_other_6, xret, xc]
    exact ⟨S, Sub.refl _, h0⟩
  rcases hr with ⟨rfl, _⟩ | ⟨r, T2, m2, r2, rfl⟩
  · simp only [PL.isNon, Bool.false_eq_true, if_false, if_true, w__law_other_6, xret, xc]
    exact ⟨S, Sub.refl _, h0⟩
  have o1 := rot_ok (M.ok _ m1) (rot_back r1)
  have o2 := rot_ok (M.ok _ m2) (rot_back r2)
  have hl : l < sp.length := o1.1.2.2
  have hr : r < sp.length := o2.1.2.2
  have B := fun {k : Nat} (hk : k < sp.length) => bd_at M.bd hk
  simp only [PL.isNon, Bool.false_eq_true, if_false, xskip, w__law_other_5, xseq, w__law_other_4, xsif, xorB, xbl, x2, xcall, xcons, xnil, v0, v2, v3, PL.v5, v6, xc, rs_at hi, rs_at hj, rs_at hl, rs_at hr]
  refine k_crs (B := b) (by omega) (B hr) (B hj) (B hl) ?_
  simp only [ocmpI]
  by_cases c1 : trn (spt sp r) (spt sp j) (spt sp l) ≤ 0
  · simp only [decide_eq_true c1, if_true, w__law_other_3, xret, xc]
    exact ⟨S, Sub.refl _, h0⟩
  simp only [decide_eq_false c1, Bool.false_eq_true, if_false]
  refine k_crs (B := b) (by omega) (B hr) (B hl) (B hi) ?_
  simp only [ocmpI]
  by_cases c2 : trn (spt sp r) (spt sp l) (spt sp i) ≤ 0
  · simp only [decide_eq_true c2, if_true, w__law_other_3, xret, xc]
    exact ⟨S, Sub.refl _, h0⟩
  simp only [decide_eq_false c2, Bool.false_eq_true, if_false, xskip, w__law_other_2, xseq, w__law_other_1, xset, xlst, xcons, xnil, xn, v2, v3, PL.v5, v6]
  refine ⟨tri3, k_sort (srt3 _ _ _) ⟨tri3, k_sort (srt3 _ _ _) ⟨two_line, ?_⟩⟩⟩
  have so : ∀ {x y z : Nat}, x < sp.length → y < sp.length → z < sp.length → Sh 1 79 (.lst (List.mergeSort [.int (x : Int), .int (y : Int), .int (z : Int)] leD)) := fun {x y z} hx hy hz =>
    sort_sh (w := 23) (ds := [.int (x : Int), .int (y : Int), .int (z : Int)]) fun d hd => by
      simp only [List.mem_cons, List.not_mem_nil, or_false] at hd
      rcases hd with rfl | rfl | rfl <;> exact sh_nat (by omega)
  have sg := (ShL.all (ds := [D.lst (List.mergeSort [.int (i : Int), .int (j : Int), .int (l : Int)] leD), D.lst (List.mergeSort [.int (i : Int), .int (j : Int), .int (r : Int)] leD)]) (k := 1) (w := 79) fun d hd => by
    simp only [List.mem_cons, List.not_mem_nil, or_false] at hd
    rcases hd with rfl | rfl
    · exact so hi hj hl
    · exact so hi hj hr).lst.ok (by decide)
  have go : ∀ t : TR, (!((toPL [D.lst (List.mergeSort [.int (i : Int), .int (j : Int), .int (l : Int)] leD), D.lst (List.mergeSort [.int (i : Int), .int (j : Int), .int (r : Int)] leD)]).any fun z => PyData.eqv z (toP (.lst (List.mergeSort [.int (t.1 : Int), .int (t.2.1 : Int), .int (t.2.2 : Int)] leD))))) = false ↔ perT t i j l ∨ perT t i j r := fun t => by
    rw [Bool.not_eq_false']
    simp only [toPL, List.any_cons, List.any_nil, Bool.or_false, Bool.or_eq_true]
    rw [sort_per, sort_per]
  generalize D.lst (List.mergeSort [.int (i : Int), .int (j : Int), .int (l : Int)] leD) = s1 at *
  generalize D.lst (List.mergeSort [.int (i : Int), .int (j : Int), .int (r : Int)] leD) = s2 at *
  simp only [g4, w__law_other_0, xret, x2]
  refine lcP_go TD (fun t : TR => !((toPL [s1, s2]).any fun z => PyData.eqv z (toP (.lst (List.mergeSort [.int (t.1 : Int), .int (t.2.1 : Int), .int (t.2.2 : Int)] leD))))) tr (fun Q hq => ?_) (le_line (by omega)) (fun t ht S1 R hR => ?_) ?_
  · simp only [xitems, v1]
    exact hq
  · obtain ⟨t1, t2, t3⟩ := hin t ht
    have w7 : ∀ {a b c d e f g h : Option D}, wipeD [a, b, c, d, e, f, g, h] [7] = [a, b, c, d, e, f, g, none] := rfl
    simp only [w7, PL.g7, xbl, x2, xn, xcons, xnil, v4, PL.v7]
    refine k_sort (srt3 _ _ _) ⟨_, rfl, (so t1 t2 t3).ok (by decide), sg, hR _ fun Q hq => ?_⟩
    simp only [PL.v7]
    exact hq
  have C : FlipT sp tr (fun t : TR => !((toPL [s1, s2]).any fun z => PyData.eqv z (toP (.lst (List.mergeSort [.int (t.1 : Int), .int (t.2.1 : Int), .int (t.2.2 : Int)] leD))))) i j l r T1 T2 := ⟨m1, m2, r1, r2, fun t _ => go t⟩
  generalize (fun t : TR => !((toPL [s1, s2]).any fun z => PyData.eqv z (toP (.lst (List.mergeSort [.int (t.1 : Int), .int (t.2.1 : Int), .int (t.2.2 : Int)] leD))))) = pr at *
  have fl := flip_len C M.ok M.fl
  have ok' : ∀ t ∈ tr.filter pr ++ [(r, j, l), (r, l, i)], triOk sp t := fun t ht => by
    rcases List.mem_append.mp ht with ht | ht
    · exact M.ok t (List.mem_filter.mp ht).1
    · simp only [List.mem_cons, List.not_mem_nil, or_false] at ht
      rcases ht with rfl | rfl
      · exact ⟨⟨hr, hj, hl⟩, by dsimp only; omega⟩
      · exact ⟨⟨hr, hl, hi⟩, by dsimp only; omega⟩
  simp only [xlst, xcons, xnil, v2, v3, PL.v5, v6]
  refine ⟨tri3, tri3, two_line, ?_⟩
  rw [add_lst]
  refine ⟨by rw [List.length_map, List.length_cons, List.length_cons, List.length_nil]; exact le_line (by omega), S, Sub.refl _, ?_⟩
  have e : (tr.filter pr).map TD ++ [D.lst [.int (r : Int), .int (j : Int), .int (l : Int)], D.lst [.int (r : Int), .int (l : Int), .int (i : Int)]] = (tr.filter pr ++ [(r, j, l), (r, l, i)]).map TD := by rw [List.map_append]; rfl
  rw [e]
  refine h1 _ ⟨ok', M.bd, M.ls, ?_, by simp, fun f hf => M.cn f fun t ht => ?_, flip_flat C M.ok M.fl ok'⟩
  · rw [List.length_append, List.length_cons, List.length_cons, List.length_nil]; omega
  · by_cases c : pr t = true
    · exact hf t (List.mem_append_left _ (List.mem_filter.mpr ⟨ht, c⟩))
    · have a1 := hf (r, j, l) (List.mem_append_right _ (by simp))
      have a2 := hf (r, l, i) (List.mem_append_right _ (by simp))
      dsimp only at a1 a2
      have al : ∀ a, a = i ∨ a = j ∨ a = l ∨ a = r → f a = f r := fun a ha => by
        rcases ha with rfl | rfl | rfl | rfl
        · rw [← a2.2, ← a2.1]
        · exact a1.1.symm
        · exact a2.1.symm
        · rfl
      have mem : ∀ a, a = t.1 ∨ a = t.2.1 ∨ a = t.2.2 → a = i ∨ a = j ∨ a = l ∨ a = r := fun a ha => by
        have ha : a ∈ [t.1, t.2.1, t.2.2] := by simpa using ha
        rcases (C.go t ht).mp (by simpa using c) with p | p
        · have := p.mem_iff.mp ha
          simp only [List.mem_cons, List.not_mem_nil, or_false] at this
          omega
        · have := p.mem_iff.mp ha
          simp only [List.mem_cons, List.not_mem_nil, or_false] at this
          omega
      have b1 := al _ (mem t.1 (.inl rfl))
      have b2 := al _ (mem t.2.1 (.inr (.inl rfl)))
      have b3 := al _ (mem t.2.2 (.inr (.inr rfl)))
      omega
theorem does__law_flipped : Does c__law_flipped w__law_flipped N__law_flipped 3 := by
  rintro ds S P X ⟨b, n, m, sp, tr, t, rfl, hs, M, ht, h⟩
  refine ⟨rfl, ?_⟩
  show w__law_flipped_2 _ _ [some (RS sp), some (RT tr), some (TD t), none] S
  obtain ⟨⟨t1, t2, t3⟩, _⟩ := M.ok t ht
  have i0 : ∀ {S : Sto} {P : PD}, oIdx (TD t) (.int 0) S P = P (.int (t.1 : Int)) S := i0l
  have i1 : ∀ {S : Sto} {P : PD}, oIdx (TD t) (.int 1) S P = P (.int (t.2.1 : Int)) S := i1l
  simp only [w__law_flipped_2, xseq, w__law_flipped_1, xset, xcall, xcons, xnil, x2, v0, v1, v2, xc, i0, i1]
  refine ⟨b, n, m, sp, tr, _, _, rfl, hs, M, t1, t2, ?_, fun tr' M' => ?_⟩
  · simp only [g3, w__law_flipped_0, xret, xif, xbl, x2, v3, v1, xc, oisN, PL.isNon, if_true]
    exact ⟨S, Sub.refl _, h tr ⟨M.ok, M.bd, M.ls, M.lt, M.ne, M.cn, M.fl⟩⟩
  · have e : PL.isNon (RT tr') = false := rfl
    simp only [g3, w__law_flipped_0, xret, xif, xbl, x2, v3, v1, xc, oisN, e, Bool.false_eq_true, if_false]
    exact ⟨S, Sub.refl _, h tr' M'⟩
theorem oslL_to {ds : List D} {k : Nat} {S : Sto} {P : PD} : oSlice (.lst ds) none (some (k : Int)) S P = P (.lst (ds.take k)) S := by
  show P (.lst (cutD ds none (some (k : Int)))) S = _
  rw [cut_to]
theorem oslL_from {ds : List D} {k : Nat} {S : Sto} {P : PD} : oSlice (.lst ds) (some (k : Int)) none S P = P (.lst (ds.drop k)) S := by
  show P (.lst (cutD ds (some (k : Int)) none)) S = _
  rw [cut_from]
theorem rt_at {tr : List TR} {k : Nat} {t : TR} {S : Sto} {P : PD} (h : tr[k]? = some t) : oIdx (RT tr) (.int (k : Int)) S P = P (TD t) S := by
  refine lx ?_
  rw [List.getElem?_map, h]; rfl
theorem rot_cut (t : TR) : ∀ f : Nat, f < 3 → ∃ u, rotT t u ∧ [D.int (t.1 : Int), .int (t.2.1 : Int), .int (t.2.2 : Int)].drop f ++ [D.int (t.1 : Int), .int (t.2.1 : Int), .int (t.2.2 : Int)].take f = [.int (u.1 : Int), .int (u.2.1 : Int), .int (u.2.2 : Int)]
  | 0, _ => ⟨_, .zero, rfl⟩
  | 1, _ => ⟨_, .one, rfl⟩
  | 2, _ => ⟨_, .two, rfl⟩
  | f + 3, h => absurd h (by omega)
theorem mid_trn {a b c z : PT} (h1 : 4 * z.1 = 2 * a.1 + b.1 + c.1) (h2 : 4 * z.2 = 2 * a.2 + b.2 + c.2) : 4 * trn a b z = trn a b c ∧ 4 * trn b c z = 2 * trn a b c ∧ 4 * trn c a z = trn a b c := by
  unfold trn
  refine ⟨?_, ?_, ?_⟩ <;> grind
theorem mid_dv {e x y z : Int} (hx : 4 * e ∣ x) (hy : 4 * e ∣ y) (hz : 4 * e ∣ z) : e ∣ (2 * x + y + z) / 4 ∧ 4 * ((2 * x + y + z) / 4) = 2 * x + y + z := by
  obtain ⟨i, rfl⟩ := hx
  obtain ⟨j, rfl⟩ := hy
  obtain ⟨k, rfl⟩ := hz
  have q : 2 * (4 * e * i) + 4 * e * j + 4 * e * k = 4 * (e * (2 * i + j + k)) := by grind
  rw [q, Int.mul_ediv_cancel_left _ (by decide)]
  exact ⟨⟨_, rfl⟩, rfl⟩
theorem split_mo {b n m : Nat} {sp : List PT} {tr : List TR} {e : Int} {k : Nat} {u : TR} {z : PT} (M : MO b n m sp tr) (dv : dvP (4 * e) sp) {t0 : TR} (h0 : tr[k]? = some t0) (r0 : rotT t0 u) (hk : k < tr.length) (hu : triOk sp u)
    (z1 : z.1 = (2 * (spt sp u.1).1 + (spt sp u.2.1).1 + (spt sp u.2.2).1) / 4) (z2 : z.2 = (2 * (spt sp u.1).2 + (spt sp u.2.1).2 + (spt sp u.2.2).2) / 4) :
    MO b (n + 1) (m + 2) (sp ++ [z]) (tr.take k ++ tr.drop (k + 1) ++ [(u.1, u.2.1, sp.length), (u.2.1, u.2.2, sp.length), (u.2.2, u.1, sp.length)]) ∧ dvP e (sp ++ [z]) := by
  obtain ⟨⟨h1, h2, h3⟩, h4⟩ := hu
  have da := dv _ (getD_mem (d := ((0 : Int), (0 : Int))) h1)
  have db := dv _ (getD_mem (d := ((0 : Int), (0 : Int))) h2)
  have dc := dv _ (getD_mem (d := ((0 : Int), (0 : Int))) h3)
  have ba := bd_at M.bd h1
  have bb := bd_at M.bd h2
  have bc := bd_at M.bd h3
  obtain ⟨e1, q1⟩ := mid_dv da.1 db.1 dc.1
  obtain ⟨e2, q2⟩ := mid_dv da.2 db.2 dc.2
  have y1 : 4 * z.1 = 2 * (spt sp u.1).1 + (spt sp u.2.1).1 + (spt sp u.2.2).1 := by rw [z1]; exact q1
  have y2 : 4 * z.2 = 2 * (spt sp u.1).2 + (spt sp u.2.1).2 + (spt sp u.2.2).2 := by rw [z2]; exact q2
  obtain ⟨t1, t2, t3⟩ := mid_trn y1 y2
  have l1 : (sp ++ [z]).length = sp.length + 1 := by rw [List.length_append, List.length_singleton]
  have ok' : ∀ t ∈ tr.take k ++ tr.drop (k + 1) ++ [(u.1, u.2.1, sp.length), (u.2.1, u.2.2, sp.length), (u.2.2, u.1, sp.length)], triOk (sp ++ [z]) t := fun t ht => by
    rcases List.mem_append.mp ht with ht | ht
    · refine triOk_app (M.ok t ?_)
      rcases List.mem_append.mp ht with ht | ht
      · exact List.mem_of_mem_take ht
      · exact List.mem_of_mem_drop ht
    · simp only [List.mem_cons, List.not_mem_nil, or_false] at ht
      rcases ht with rfl | rfl | rfl
      · refine ⟨⟨by rw [l1]; dsimp only; omega, by rw [l1]; dsimp only; omega, by rw [l1]; dsimp only; omega⟩, ?_⟩
        dsimp only
        rw [spt_app h1, spt_app h2, spt_end]
        omega
      · refine ⟨⟨by rw [l1]; dsimp only; omega, by rw [l1]; dsimp only; omega, by rw [l1]; dsimp only; omega⟩, ?_⟩
        dsimp only
        rw [spt_app h2, spt_app h3, spt_end]
        omega
      · refine ⟨⟨by rw [l1]; dsimp only; omega, by rw [l1]; dsimp only; omega, by rw [l1]; dsimp only; omega⟩, ?_⟩
        dsimp only
        rw [spt_app h3, spt_app h1, spt_end]
        omega
  refine ⟨⟨ok', fun c hc => ?_, ?_, ?_, by simp, fun f hf => ?_, split_flat M.fl M.ok h0 r0 ok'⟩, fun c hc => ?_⟩
  · rcases List.mem_append.mp hc with hc | hc
    · exact M.bd c hc
    · rw [List.mem_singleton.mp hc]
      clear t1 t2 t3 z1 z2 q1 q2
      omega
  · have := M.ls
    rw [l1]; omega
  · have := M.lt
    simp only [List.length_append, List.length_take, List.length_drop, List.length_cons, List.length_nil]
    omega
  · have a1 := hf (u.1, u.2.1, sp.length) (List.mem_append_right _ (by simp))
    have a2 := hf (u.2.1, u.2.2, sp.length) (List.mem_append_right _ (by simp))
    dsimp only at a1 a2
    have old := M.cn f fun t ht => by
      obtain ⟨m, hm⟩ := List.getElem?_of_mem ht
      by_cases c : m = k
      · subst c
        cases h0.symm.trans hm
        cases r0 with
        | zero => exact ⟨a1.1, a2.1⟩
        | one => dsimp only at a1 a2; omega
        | two => dsimp only at a1 a2; omega
      · refine hf t (List.mem_append_left _ ?_)
        by_cases c2 : m < k
        · exact List.mem_append_left _ (List.mem_of_getElem? (by rw [List.getElem?_take_of_lt c2]; exact hm))
        · exact List.mem_append_right _ (List.mem_of_getElem? (i := m - (k + 1)) (by rw [List.getElem?_drop, show k + 1 + (m - (k + 1)) = m by omega]; exact hm))
    intro i j hi hj
    rw [l1] at hi hj
    have one : ∀ i, i < sp.length + 1 → f i = f u.1 := fun i hi => by
      by_cases c : i < sp.length
      · exact old i u.1 c h1
      · rw [show i = sp.length by omega]; omega
    rw [one i hi, one j hj]
  · rcases List.mem_append.mp hc with hc | hc
    · obtain ⟨d1, d2⟩ := dv c hc
      exact ⟨Int.dvd_trans (Int.dvd_mul_left 4 e) d1, Int.dvd_trans (Int.dvd_mul_left 4 e) d2⟩
    · rw [List.mem_singleton.mp hc, z1, z2]
      exact ⟨e1, e2⟩
theorem does__law_split : Does c__law_split w__law_split N__law_split 3 := by
  rintro ds S P X ⟨p, q, b, n, m, sp, tr, e, rfl, hd, ⟨hb, hn, hm⟩, M, dv, h⟩
  refine ⟨rfl, ?_⟩
  show w__law_split_10 _ _ [some (.ref p), some (RS sp), some (RT tr), none, none, none, none, none, none, none, none] S
  have sl := M.ls
  have tl := M.lt
  have tp : 0 < tr.length := List.length_pos_iff.mpr M.ne
  have el : ∀ {S : Sto} {P : PD}, oLen [RT tr] S P = P (.int (tr.length : Nat)) S := fun {S P} => by rw [show RT tr = .lst (tr.map TD) from rfl, len_lst, List.length_map]
  have es : ∀ {S : Sto} {P : PD}, oLen [RS sp] S P = P (.int (sp.length : Nat)) S := fun {S P} => by rw [show RS sp = .lst (sp.map DI) from rfl, len_lst, List.length_map]
  simp only [w__law_split_10, xseq, w__law_split_9, xpar2, xcall, xcons, xnil, xn, v0, v2, xc, el]
  refine k_any hd (by omega) (by omega) fun i S1 i0 i1 hd1 f1 => k_any hd1 (by decide) (by decide) fun f S2 g0 g1 hd2 f2 => ?_
  obtain ⟨k, rfl⟩ := Int.eq_ofNat_of_zero_le i0
  obtain ⟨f, rfl⟩ := Int.eq_ofNat_of_zero_le g0
  have hk : k < tr.length := by omega
  obtain ⟨t, ht⟩ : ∃ t, tr[k]? = some t := ⟨_, List.getElem?_eq_getElem hk⟩
  obtain ⟨u, hr, hu⟩ := rot_cut t f (by omega)
  have hu2 : triOk sp u := rot_ok (M.ok t (List.mem_of_getElem? ht)) hr
  obtain ⟨⟨h1, h2, h3⟩, _⟩ := id hu2
  simp only [List.set_cons_succ, List.set_cons_zero, w__law_split_8, xseq, w__law_split_7, xset, x2, slF, slT, v2, v6, PL.v7, rt_at ht]
  show oSlice (.lst [.int (t.1 : Int), .int (t.2.1 : Int), .int (t.2.2 : Int)]) (some (f : Int)) none _ _
  rw [oslL_from]
  show oSlice (.lst [.int (t.1 : Int), .int (t.2.1 : Int), .int (t.2.2 : Int)]) none (some (f : Int)) _ _
  rw [oslL_to, add_lst, hu]
  refine ⟨by rw [List.length_drop, List.length_take]; exact le_line (by simp only [List.length_cons, List.length_nil]; omega), ?_⟩
  rw [g3l]
  simp only [List.set_cons_succ, List.set_cons_zero, w__law_split_6, xseq, w__law_split_5, xset, x2, v1, PL.v8, PL.v9, v10, xc, rs_at h1, rs_at h2, rs_at h3, PL.iI0, omulI, oaddI, odivI]
  have ba := bd_at M.bd h1
  have bb := bd_at M.bd h2
  have bc := bd_at M.bd h3
  have c2 : Bd 20 (2 : Int) := bd_s (by decide) (by decide)
  have c4 : Bd 20 (4 : Int) := bd_s (by decide) (by decide)
  refine ⟨c2.cmul (bd_s (k := 20) (by omega) (by decide)) (by decide), c4.cdiv (by decide) (by decide), ?_⟩
  simp only [g3, w__law_split_4, xseq, w__law_split_3, xset, x2, v1, PL.v8, PL.v9, v10, xc, rs_at h1, rs_at h2, rs_at h3, iI1, omulI, oaddI, odivI]
  refine ⟨c2.cmul (bd_s (k := 20) (by omega) (by decide)) (by decide), c4.cdiv (by decide) (by decide), ?_⟩
  simp only [g4, w__law_split_2, xseq, w__law_split_1, xset, xn, xcons, xnil, v1, es, PL.g5, w__law_split_0, xret, xtup, xlst, x2, slF, slT, v2, v3, v4, PL.v5, v6, PL.v8, PL.v9, v10, xc]
  refine ⟨two_line, le_line (by simp), ?_⟩
  rw [show RS sp = .lst (sp.map DI) from rfl, add_lst]
  refine ⟨by rw [List.length_map, List.length_singleton]; exact le_line (by omega), ?_⟩
  show oSlice (.lst (tr.map TD)) none (some (k : Int)) _ _
  rw [oslL_to]
  simp only [oaddI]
  rw [show (k : Int) + 1 = ((k + 1 : Nat) : Int) by omega]
  show oSlice (.lst (tr.map TD)) (some ((k + 1 : Nat) : Int)) none _ _
  rw [oslL_from, add_lst]
  refine ⟨by rw [List.length_drop, List.length_take, List.length_map]; exact le_line (by omega), tri3, tri3, tri3, tri3, ?_⟩
  rw [add_lst]
  refine ⟨by rw [List.length_append, List.length_drop, List.length_take, List.length_map]; exact le_line (by simp only [List.length_cons, List.length_nil]; omega), two_line, S2, Sub.refl _, ?_⟩
  obtain ⟨M2, D2⟩ := split_mo (z := ((2 * (spt sp u.1).1 + (spt sp u.2.1).1 + (spt sp u.2.2).1) / 4, (2 * (spt sp u.1).2 + (spt sp u.2.1).2 + (spt sp u.2.2).2) / 4)) M dv ht hr hk hu2 rfl rfl
  have := h _ _ S2 M2 D2 hd2 (f1.trans f2)
  rw [show ∀ (a : List PT) (b : List TR), (D.tup [RS a, RT b]) = .tup [.lst (a.map DI), .lst (b.map TD)] from fun _ _ => rfl, List.map_append, List.map_append, List.map_append, List.map_take, List.map_drop] at this
  exact this
/-! lattices -/
structure AL (p q l : Addr) (k : Nat) (S0 S : Sto) (xs : List Int) : Prop where
  deal : Deal S p q
  fr : Fr3 p q l S0 S
  nlp : l ≠ p
  nlq : l ≠ q
  at_l : S l = some (.lst (xs.map D.int))
  asc : Asc k xs
theorem asc_zero : Asc 0 [0] := ⟨rfl, fun i h => absurd h (Nat.not_lt_zero i), fun x hx => by rw [List.mem_singleton.mp hx]; decide⟩
theorem asc_next {k : Nat} {init : List Int} {z r : Int} (A : Asc k (init ++ [z])) (h0 : 0 ≤ r) (h1 : r < 4) : Asc (k + 1) (init ++ [z] ++ [z + 1 + r]) := by
  have hl := A.len
  rw [List.length_append, List.length_singleton] at hl
  refine ⟨by simp only [List.length_append, List.length_singleton]; omega, fun i hi => ?_, fun x hx => ?_⟩
  · by_cases c : i < k
    · have := A.up i c
      have e : ∀ j, j < k + 1 → (init ++ [z] ++ [z + 1 + r]).getD j 0 = (init ++ [z]).getD j 0 := fun j hj => by
        rw [List.getD_eq_getElem?_getD, List.getD_eq_getElem?_getD, List.getElem?_append_left (by rw [List.length_append, List.length_singleton]; omega)]
      rw [e i (by omega), e (i + 1) (by omega)]
      exact this
    · have : i = k := by omega
      subst this
      have e1 : (init ++ [z] ++ [z + 1 + r]).getD i 0 = z := by
        rw [List.getD_eq_getElem?_getD, List.getElem?_append_left (by rw [List.length_append, List.length_singleton]; omega), List.getElem?_append_right (by omega), show i - init.length = 0 by omega]; rfl
      have e2 : (init ++ [z] ++ [z + 1 + r]).getD (i + 1) 0 = z + 1 + r := by
        rw [List.getD_eq_getElem?_getD, List.getElem?_append_right (by rw [List.length_append, List.length_singleton]; omega), show i + 1 - (init ++ [z]).length = 0 by rw [List.length_append, List.length_singleton]; omega]; rfl
      rw [e1, e2]; omega
  · rcases List.mem_append.mp hx with hx | hx
    · have := A.bd x hx; omega
    · rw [List.mem_singleton.mp hx]
      have := A.bd z (by simp)
      omega
abbrev ascB (j : Nat) : WS := sExpr (wApp (wVar j) (w2 oAdd (w2 oAdd (w2 oIdx (wVar j) (w1 oNeg (wC (.int 1)))) (wC (.int 1))) (wCall c__law_any [] (wCons (wVar 0) (wCons (wC (.int 4)) wNil)) wNil)))
theorem asc_body {E : EndD} {Y : XS} {r : PL.Env} {p q l : Addr} {S0 S : Sto} {j k : Nat} {xs : List Int} (h0 : ∀ {S : Sto} {P : PD} {X : PX}, wVar 0 r S P X = P (.ref p) S) (hj : ∀ {S : Sto} {P : PD} {X : PX}, wVar j r S P X = P (.ref l) S)
    (hk : k ≤ 10) (T : AL p q l k S0 S xs) (nx : ∀ xs' S', AL p q l (k + 1) S0 S' xs' → E.nx r S') : ascB j E Y r S := by
  obtain ⟨deal, fr, nlp, nlq, at_l, asc⟩ := T
  have hl := asc.len
  rcases List.eq_nil_or_concat xs with e | ⟨init, z, e⟩
  · rw [e] at hl; simp at hl
  have e : xs = init ++ [z] := by simpa using e
  subst e
  simp only [ascB, xexpr, xapp, hj, isl at_l, true_and, x2, x1, xc, onegI, idx_last at_l, oaddI, xcall, xcons, xnil, h0]
  refine k_any deal (by decide) (by decide) fun d S1 d0 d1 hd1 f1 => ?_
  have at1 : S1 l = some (.lst ((init ++ [z]).map D.int)) := (f1 l nlp nlq).trans at_l
  simp only [oaddI, app_at at1]
  refine ⟨?_, ?_⟩
  · rw [List.length_map]; exact Nat.lt_of_lt_of_le (show (init ++ [z]).length < 1000 by omega) (le_line (Nat.le_refl _))
  · refine nx (init ++ [z] ++ [z + 1 + d]) _ ⟨hd1.put nlp nlq, fun x a b c => ?_, nlp, nlq, ?_, asc_next asc d0 d1⟩
    · rw [sput_off c, f1 x a b]; exact fr x a b c
    · rw [sput_at, List.map_append (l₁ := init ++ [z])]; rfl
theorem asc_loop {E : EndD} {Y : XS} {p q l : Addr} {S0 : Sto} {j n : Nat} {w h g a b : Option D} (hj : ∀ {z : Option D} {S : Sto} {P : PD} {X : PX}, wVar j [some (.ref p), w, h, g, z, none, none, a, b, none, none, none, none, none, none, none] S P X = P (.ref l) S)
    (hn : n ≤ 10) (nx : ∀ xs' S' z, AL p q l n S0 S' xs' → E.nx [some (.ref p), w, h, g, z, none, none, a, b, none, none, none, none, none, none, none] S') :
    ∀ (m k : Nat) (lo : Int) (xs : List Int) (S : Sto) (z : Option D), k + m = n → AL p q l k S0 S xs → loopD (gVar 4) (ascB j) E Y (intsD lo m) [some (.ref p), w, h, g, z, none, none, a, b, none, none, none, none, none, none, none] S
  | 0, k, lo, xs, S, z, e, T => by
    have : k = n := by omega
    subst this
    exact nx xs S z T
  | m + 1, k, lo, xs, S, z, e, T => by
    rw [ints_cons]
    simp only [xloop, g4]
    exact asc_body v0 hj (by omega) T fun xs' S' T' => asc_loop hj hn nx m (k + 1) _ xs' S' _ (by omega) T'
theorem grP_len (xs : List Int) : ∀ ys : List Int, (grP xs ys).length = ys.length * xs.length
  | [] => by simp [grP]
  | y :: ys => by
    have e : grP xs (y :: ys) = xs.map (fun x => (x, y)) ++ grP xs ys := by simp [grP]
    rw [e, List.length_append, List.length_map, grP_len xs ys, List.length_cons, Nat.succ_mul, Nat.add_comm]
theorem row_loop {E : EndD} {Y : XS} {S : Sto} {xs zs : List Int} {a0 a1 a2 a3 a4 a6 a8 a10 : Option D} (hx : xs.length ≤ 10) (hz : zs.length ≤ 10)
    (nx : ∀ z, E.nx [a0, a1, a2, a3, a4, z, a6, some (.lst (xs.map D.int)), a8, some (RS (grP xs zs)), a10, none, none, none, none, none] S) :
    ∀ (ys pre : List Int) (z : Option D), pre ++ ys = zs → loopD (gVar 5) w__law_grid_9 E Y (ys.map D.int) [a0, a1, a2, a3, a4, z, a6, some (.lst (xs.map D.int)), a8, some (RS (grP xs pre)), a10, none, none, none, none, none] S
  | [], pre, z, e => by
    rw [List.append_nil] at e
    subst e
    exact nx z
  | y :: ys, pre, z, e => by
    have el := grP_len xs pre
    have hp : pre.length + 1 ≤ 10 := by
      have := congrArg List.length e
      rw [List.length_append, List.length_cons] at this
      omega
    have hs : pre.length * xs.length ≤ 10 * 10 := Nat.mul_le_mul (by omega) hx
    rw [List.map_cons, xloop]
    simp only [PL.g5, w__law_grid_9, xset, x2, PL.v9]
    refine lcM_go D.int (fun x => DI (x, y)) xs (fun Q hq => ?_) (le_line (by omega)) (fun x hx S1 R hR => ?_) ?_
    · simp only [xitems, PL.v7]
      exact hq
    · have w15 : ∀ {a0 a1 a2 a3 a4 a5 a6 a7 a8 a9 a10 a11 a12 a13 a14 a15 : Option D}, wipeD [a0, a1, a2, a3, a4, a5, a6, a7, a8, a9, a10, a11, a12, a13, a14, a15] [15] = [a0, a1, a2, a3, a4, a5, a6, a7, a8, a9, a10, a11, a12, a13, a14, none] := rfl
      simp only [w15, g15, xtup, xcons, xnil, v15, PL.v5]
      exact ⟨two_line, hR⟩
    · rw [show RS (grP xs pre) = .lst ((grP xs pre).map DI) from rfl, add_lst]
      refine ⟨by rw [List.length_map, List.length_map]; exact le_line (by omega), ?_⟩
      have e2 : (grP xs pre).map DI ++ xs.map (fun x => DI (x, y)) = (grP xs (pre ++ [y])).map DI := by
        unfold grP
        rw [List.flatMap_append, List.map_append]
        simp
      rw [e2]
      simp only [PL.g9]
      exact row_loop hx hz nx ys (pre ++ [y]) _ (by rw [List.append_assoc]; exact e)
/-- the triples of the first cells -/
structure CL (g : Int) (w h c : Nat) (tr : List TR) : Prop where
  len : tr.length ≤ 2 * c
  mem : ∀ t ∈ tr, ∃ i j, i < h ∧ j < w ∧ i * w + j < c ∧ celT w i j t
  ne : 0 < c → tr ≠ []
  pw : tr.Pairwise (CelR w h)
  cov : ∀ f : Nat → Int, alk f tr → ∀ c', c' < c → (c' : Int) ≠ g → covC w c' f
theorem alk_app {f : Nat → Int} {a b : List TR} (h : alk f (a ++ b)) : alk f a ∧ alk f b := ⟨fun t ht => h t (List.mem_append_left _ ht), fun t ht => h t (List.mem_append_right _ ht)⟩
theorem cl_next {g : Int} {w h c : Nat} {tr us : List TR} {i j : Nat} (hv : ∀ f, alk f us → (c : Int) ≠ g → covC w c f) (hc : i * w + j = c) (hq : us.Pairwise (pairC w i j)) (C : CL g w h c tr) (hi : i < h) (hj : j < w) (hu : ∀ t ∈ us, celT w i j t) (hl : us.length ≤ 2) (hn : c = 0 → us ≠ []) : CL g w h (c + 1) (tr ++ us) := by
  refine ⟨by rw [List.length_append]; have := C.len; omega, fun t ht => ?_, fun _ => ?_, ?_, fun f hf c' hc' hg => ?_⟩
  · rcases List.mem_append.mp ht with ht | ht
    · obtain ⟨i', j', a1, a2, a3, a4⟩ := C.mem t ht
      exact ⟨i', j', a1, a2, by omega, a4⟩
    · exact ⟨i, j, hi, hj, by omega, hu t ht⟩
  · by_cases c0 : c = 0
    · intro z; exact hn c0 (List.append_eq_nil_iff.mp z).2
    · intro z; exact C.ne (by omega) (List.append_eq_nil_iff.mp z).1
  · refine List.pairwise_append.mpr ⟨C.pw, hq.imp_of_mem fun {x y} hx hy p => ⟨i, j, i, j, ⟨hi, hj, hi, hj⟩, hu x hx, hu y hy, .inr p⟩, fun x hx y hy => ?_⟩
    obtain ⟨i', j', a1, a2, a3, a4⟩ := C.mem x hx
    exact ⟨i', j', i, j, ⟨a1, a2, hi, hj⟩, a4, hu y hy, .inl fun z => by rw [z.1, z.2] at a3; omega⟩
  · by_cases e : c' = c
    · subst e; exact hv f (alk_app hf).2 hg
    · exact C.cov f (alk_app hf).1 c' (by omega) hg
theorem cell_at (c w : Nat) : (c : Int) / (w : Int) * ((w : Int) + 1) + (c : Int) % (w : Int) = ((c / w * (w + 1) + c % w : Nat) : Int) := by
  norm_cast
section
variable {E : EndD} {Y : XS} {p q : Addr} {S0 : Sto} {w h : Nat} {g : Int} {y xs ys sp : Option D}
abbrev gEnv (p : Addr) (w h : Nat) (g : Int) (y xs ys sp z4 z6 : Option D) (tr : List TR) (a b c d : Option D) : PL.Env := [some (.ref p), some (.int (w : Int)), some (.int (h : Int)), some (.int g), z4, y, z6, xs, ys, sp, some (RT tr), a, b, c, d, none]
theorem cell_body {z4 : Option D} {c : Nat} {tr : List TR} {S : Sto} {A B C D' : Option D} (hw : 1 ≤ w ∧ w ≤ 3) (hh : 1 ≤ h ∧ h ≤ 3) (hg : g ≠ 0) (hc : c < w * h) (hd : Deal S p q) (fr : Fr p q S0 S) (I : CL g w h c tr)
    (nx : ∀ tr' S' a b c' d, Deal S' p q → Fr p q S0 S' → CL g w h (c + 1) tr' → E.nx (gEnv p w h g y xs ys sp z4 (some (.int (c : Int))) tr' a b c' d) S') :
    w__law_grid_6 E Y (gEnv p w h g y xs ys sp z4 (some (.int (c : Int))) tr A B C D') S := by
  have hi : c / w < h := (Nat.div_lt_iff_lt_mul (by omega)).mpr (by rw [Nat.mul_comm]; exact hc)
  have hj : c % w < w := Nat.mod_lt _ (by omega)
  have hcw : c / w * w + c % w = c := by rw [Nat.mul_comm]; exact Nat.div_add_mod c w
  have c9 : w * h ≤ 3 * 3 := Nat.mul_le_mul hw.2 hh.2
  have dl := Nat.div_le_self c w
  have b1 : Bd 20 ((c : Int) / (w : Int)) := bd_s (by rw [show (c : Int) / (w : Int) = ((c / w : Nat) : Int) from rfl, Int.natAbs_natCast]; omega) (by decide)
  have b2 : Bd 20 ((w : Int) + 1) := bd_s (by omega) (by decide)
  have bw : Bd 20 (w : Int) := bd_s (by omega) (by decide)
  have tl := I.len
  simp only [w__law_grid_6, xseq, w__law_grid_5, xset, x2, xn, xcons, xnil, v1, v6, xc, odivI, oaddI, omulI, ointI, omodI]
  refine ⟨bw.cdiv (by omega) (by decide), b1.cmul b2 (by decide), by omega, ?_⟩
  rw [cell_at]
  generalize ha : c / w * (w + 1) + c % w = a at *
  simp only [g11, w__law_grid_4, xseq, w__law_grid_3, xpar3, xcons, xnil, x2, v11, v1, xc, oaddI, List.set_cons_succ, List.set_cons_zero, w__law_grid_2, xsif, xbl, v6, v3, oneI]
  by_cases hcg : (c : Int) = g
  · simp only [hcg, decide_true, Bool.not_true, Bool.false_eq_true, if_false, xskip]
    have := nx tr S (some (.int (a : Int))) (some (.int ((a : Int) + 1))) (some (.int ((a : Int) + w + 2))) (some (.int ((a : Int) + w + 1))) hd fr (by
      have := cl_next (us := []) (fun _ _ z => absurd hcg z) hcw .nil I hi hj (fun t ht => by cases ht) (by simp) (fun z => absurd (by omega) hg)
      rwa [List.append_nil] at this)
    rw [hcg] at this
    exact this
  · simp only [decide_eq_false hcg, Bool.not_false, if_true, w__law_grid_1, xset, x2, v10, xif, xbl, xcall, xcons, xnil, v0, xc]
    refine k_any hd (by decide) (by decide) fun r S1 r0 r1 hd1 f1 => ?_
    simp only [oeqI]
    have fin : ∀ us : List TR, (∀ t ∈ us, celT w (c / w) (c % w) t) → us.length = 2 → (∀ f, alk f us → covC w c f) → us.Pairwise (pairC w (c / w) (c % w)) → ∀ a b c' d, E.nx (gEnv p w h g y xs ys sp z4 (some (.int (c : Int))) (tr ++ us) a b c' d) S1 := fun us h1 h2 h3 h4 a b c' d =>
      nx _ S1 a b c' d hd1 (fr.trans f1) (cl_next (fun f hf _ => h3 f hf) hcw h4 I hi hj h1 (by omega) fun _ z => by rw [z] at h2; cases h2)
    have e1 : ∀ k : Nat, (a : Int) + (k : Int) = ((a + k : Nat) : Int) := fun k => by omega
    by_cases hr : r = 0
    · simp only [hr, decide_true, if_true, xlst, xcons, xnil, v11, v12, v13, v14]
      refine ⟨tri3, tri3, two_line, ?_⟩
      rw [show RT tr = .lst (tr.map TD) from rfl, add_lst]
      refine ⟨by rw [List.length_map]; exact le_line (by simp only [List.length_cons, List.length_nil]; omega), ?_⟩
      have e2 : tr.map TD ++ [D.lst [.int (a : Int), .int ((a : Int) + 1), .int ((a : Int) + w + 2)], D.lst [.int (a : Int), .int ((a : Int) + w + 2), .int ((a : Int) + w + 1)]] = (tr ++ [(a, a + 1, a + w + 2), (a, a + w + 2, a + w + 1)]).map TD := by
        rw [List.map_append]
        simp [TD]
      rw [e2]
      simp only [g10]
      refine fin _ (fun t ht => ?_) rfl (fun f hf => ?_) (by
        refine List.pairwise_cons.mpr ⟨fun y hy => ?_, List.pairwise_singleton _ _⟩
        rw [List.mem_singleton.mp hy]
        unfold pairC
        rw [ha]
        first | exact .inl ⟨rfl, rfl⟩ | exact .inr ⟨rfl, rfl⟩) _ _ _ _
      rotate_left
      · have q1 := hf _ List.mem_cons_self
        have q2 := hf _ (List.mem_cons_of_mem _ List.mem_cons_self)
        dsimp only at q1 q2
        unfold covC
        rw [ha]
        omega
      simp only [List.mem_cons, List.not_mem_nil, or_false] at ht
      unfold celT
      rw [ha]
      rcases ht with rfl | rfl
      · exact .inl rfl
      · exact .inr (.inl rfl)
    · simp only [decide_eq_false hr, Bool.false_eq_true, if_false, xlst, xcons, xnil, v11, v12, v13, v14]
      refine ⟨tri3, tri3, two_line, ?_⟩
      rw [show RT tr = .lst (tr.map TD) from rfl, add_lst]
      refine ⟨by rw [List.length_map]; exact le_line (by simp only [List.length_cons, List.length_nil]; omega), ?_⟩
      have e2 : tr.map TD ++ [D.lst [.int (a : Int), .int ((a : Int) + 1), .int ((a : Int) + w + 1)], D.lst [.int ((a : Int) + 1), .int ((a : Int) + w + 2), .int ((a : Int) + w + 1)]] = (tr ++ [(a, a + 1, a + w + 1), (a + 1, a + w + 2, a + w + 1)]).map TD := by
        rw [List.map_append]
        simp [TD]
      rw [e2]
      simp only [g10]
      refine fin _ (fun t ht => ?_) rfl (fun f hf => ?_) (by
        refine List.pairwise_cons.mpr ⟨fun y hy => ?_, List.pairwise_singleton _ _⟩
        rw [List.mem_singleton.mp hy]
        unfold pairC
        rw [ha]
        first | exact .inl ⟨rfl, rfl⟩ | exact .inr ⟨rfl, rfl⟩) _ _ _ _
      rotate_left
      · have q1 := hf _ List.mem_cons_self
        have q2 := hf _ (List.mem_cons_of_mem _ List.mem_cons_self)
        dsimp only at q1 q2
        unfold covC
        rw [ha]
        omega
      simp only [List.mem_cons, List.not_mem_nil, or_false] at ht
      unfold celT
      rw [ha]
      rcases ht with rfl | rfl
      · exact .inr (.inr (.inl rfl))
      · exact .inr (.inr (.inr rfl))
theorem cell_loop {z4 : Option D} (hw : 1 ≤ w ∧ w ≤ 3) (hh : 1 ≤ h ∧ h ≤ 3) (hg : g ≠ 0)
    (nx : ∀ tr' S' z6 a b c' d, Deal S' p q → Fr p q S0 S' → CL g w h (w * h) tr' → E.nx (gEnv p w h g y xs ys sp z4 z6 tr' a b c' d) S') :
    ∀ (m c : Nat) (tr : List TR) (S : Sto) (z6 a b c' d : Option D), c + m = w * h → Deal S p q → Fr p q S0 S → CL g w h c tr → loopD (gVar 6) w__law_grid_6 E Y (intsD (c : Int) m) (gEnv p w h g y xs ys sp z4 z6 tr a b c' d) S
  | 0, c, tr, S, z6, a, b, c', d, e, hd, fr, I => by
    have : c = w * h := by omega
    subst this
    exact nx tr S z6 a b c' d hd fr I
  | m + 1, c, tr, S, z6, a, b, c', d, e, hd, fr, I => by
    rw [ints_cons]
    simp only [xloop, g6]
    refine cell_body hw hh hg (by omega) hd fr I fun tr' S' a' b' c'' d' hd' fr' I' => ?_
    rw [show (c : Int) + 1 = ((c + 1 : Nat) : Int) by omega]
    exact cell_loop hw hh hg nx m (c + 1) tr' S' _ a' b' c'' d' (by omega) hd' fr' I'
end
theorem does__law_grid : Does c__law_grid w__law_grid N__law_grid 4 := by
  rintro ds S P X ⟨p, q, w, h, g, rfl, hd, ⟨w0, w1, h0, h1, hg⟩, k⟩
  refine ⟨rfl, ?_⟩
  show w__law_grid_23 _ _ [some (.ref p), some (.int (w : Int)), some (.int (h : Int)), some (.int g), none, none, none, none, none, none, none, none, none, none, none, none] S
  simp only [w__law_grid_23, xseq, w__law_grid_22, xpar2, xcons, xnil, xnew, xc]
  refine ⟨le_line (by simp), fun l hl => ⟨le_line (by simp), fun l2 hl2 => ?_⟩⟩
  have nll : l2 ≠ l := fun z => by rw [z, sput_at] at hl2; cases hl2
  have hl2' : S l2 = none := by rw [sput_off nll] at hl2; exact hl2
  have c9 : w * h ≤ 3 * 3 := Nat.mul_le_mul w1 h1
  simp only [List.set_cons_succ, List.set_cons_zero, w__law_grid_21, xseq, w__law_grid_20, xfor, xrngA, xcons, xnil, v1]
  refine ⟨by omega, ?_⟩
  rw [Int.toNat_natCast]
  refine asc_loop (p := p) (q := q) (l := l) (S0 := sput (sput S l (.lst [.int 0])) l2 (.lst [.int 0])) (j := 7) (n := w) (fun {z S P X} => PL.v7) (by omega) ?_ w 0 0 [0] _ _ (by omega) ⟨(hd.put (hd.neP hl) (hd.neQ hl)).put (hd.neP hl2') (hd.neQ hl2'), fun x _ _ _ => rfl, hd.neP hl, hd.neQ hl, by rw [sput_off (Ne.symm nll), sput_at]; rfl, asc_zero⟩
  intro xs S1 z T1
  simp only [w__law_grid_18, xseq, w__law_grid_17, xfor, xrngA, xcons, xnil, v2]
  refine ⟨by omega, ?_⟩
  rw [Int.toNat_natCast]
  have e1 : S1 l2 = some (.lst [.int 0]) := by rw [T1.fr l2 (hd.neP hl2') (hd.neQ hl2') nll, sput_at]
  refine asc_loop (p := p) (q := q) (l := l2) (S0 := S1) (j := 8) (n := h) (fun {z S P X} => PL.v8) (by omega) ?_ h 0 0 [0] _ _ (by omega) ⟨T1.deal, fun x _ _ _ => rfl, hd.neP hl2', hd.neQ hl2', e1, asc_zero⟩
  intro ys S2 z T2
  have a1 : S2 l = some (.lst (xs.map D.int)) := by rw [T2.fr l (hd.neP hl) (hd.neQ hl) (Ne.symm nll)]; exact T1.at_l
  have lx := T1.asc.len
  have ly := T2.asc.len
  simp only [w__law_grid_15, xseq, w__law_grid_14, xpar2, xcons, xnil, xlst]
  refine ⟨le_line (by simp), le_line (by simp), ?_⟩
  simp only [List.set_cons_succ, List.set_cons_zero, w__law_grid_13, xseq, w__law_grid_12]
  refine xpreR (l := l) (es := xs.map D.int) rfl a1 ?_
  rw [w__law_grid_11]
  refine xpreR (l := l2) (es := ys.map D.int) rfl (by rw [sdel_ne nll]; exact T2.at_l) ?_
  simp only [List.set_cons_succ, List.set_cons_zero, w__law_grid_10, xfor, xitems, PL.v8]
  have d3 : Deal (sdel (sdel S2 l) l2) p q := deal_del (deal_del T2.deal (hd.neP hl) (hd.neQ hl)) (hd.neP hl2') (hd.neQ hl2')
  have f3 : Fr p q S (sdel (sdel S2 l) l2) := fun x xp xq => by
    by_cases x1 : x = l2
    · rw [x1, sdel_at, hl2']
    · rw [sdel_ne x1]
      by_cases x2 : x = l
      · rw [x2, sdel_at, hl]
      · rw [sdel_ne x2, T2.fr x xp xq x1, T1.fr x xp xq x2, sput_off x1, sput_off x2]
  show loopD _ _ _ _ (ys.map D.int) [_, _, _, _, _, _, _, _, _, some (RS (grP xs [])), _, _, _, _, _, _] _
  refine row_loop (zs := ys) (by omega) (by omega) ?_ ys [] _ rfl
  intro z
  simp only [w__law_grid_8, xseq, w__law_grid_7, xfor, xrngA, xcons, xnil, x2, v1, v2, omulI]
  have bw : Bd 20 (w : Int) := bd_s (by omega) (by decide)
  have bh : Bd 20 (h : Int) := bd_s (by omega) (by decide)
  have e : ((w : Int) * (h : Int)) = ((w * h : Nat) : Int) := by norm_cast
  refine ⟨bw.cmul bh (by decide), by rw [e]; omega, ?_⟩
  rw [e, Int.toNat_natCast]
  refine cell_loop (q := q) (S0 := S) ⟨w0, w1⟩ ⟨h0, h1⟩ hg ?_ (w * h) 0 [] _ _ _ _ _ _ (by omega) d3 f3 ⟨Nat.le_refl _, (fun t ht => by cases ht), (fun z => absurd z (by decide)), .nil, fun _ _ c' hc' => absurd hc' (Nat.not_lt_zero c')⟩
  intro tr S4 z6 a b c d d4 f4 C
  simp only [w__law_grid_0, xret, xtup, xcons, xnil, PL.v9, v10]
  have wh : 0 < w * h := Nat.mul_pos (by omega) (by omega)
  exact ⟨two_line, S4, Sub.refl _, k xs ys tr S4 T1.asc T2.asc ⟨by have := C.len; omega, fun t ht => by
    obtain ⟨i, j, a1, a2, _, a4⟩ := C.mem t ht
    exact ⟨i, j, a1, a2, a4⟩⟩ (C.ne wh) C.cov C.pw d4 f4⟩
/-! a lattice moved a little -/
structure ML (p q l : Addr) (S0 S : Sto) (e : Int) (sp cur : List PT) (bound : Nat) : Prop where
  deal : Deal S p q
  fr : Fr3 p q l S0 S
  nlp : l ≠ p
  nlq : l ≠ q
  at_l : S l = some (.lst (cur.map DI))
  len : cur.length = sp.length
  nr : ∀ k, k < sp.length → nrP e (spt cur k) (spt sp k)
  old : ∀ k, bound ≤ k → k < sp.length → spt cur k = spt sp k
theorem ML.up {p q l : Addr} {S0 S : Sto} {e : Int} {sp cur : List PT} {b c : Nat} (M : ML p q l S0 S e sp cur b) (h : b ≤ c) : ML p q l S0 S e sp cur c :=
  ⟨M.deal, M.fr, M.nlp, M.nlq, M.at_l, M.len, M.nr, fun k hk => M.old k (by omega)⟩
theorem spt_set_ne {cur : List PT} {v : PT} {k m : Nat} (h : m ≠ k) : spt (cur.set k v) m = spt cur m := by
  unfold spt
  rw [List.getD_eq_getElem?_getD, List.getD_eq_getElem?_getD, List.getElem?_set_ne (Ne.symm h)]
theorem spt_set {cur : List PT} {v : PT} {k : Nat} (h : k < cur.length) : spt (cur.set k v) k = v := by
  unfold spt
  rw [List.getD_eq_getElem?_getD, List.getElem?_set_self h]; rfl
section
variable {E : EndD} {Y : XS} {p q l : Addr} {S0 : Sto} {w h : Nat} {b : Int} {sp : List PT}
abbrev mEnv (p l : Addr) (w h : Nat) (b : Int) (sp : List PT) (z5 z8 z9 : Option D) : PL.Env := [some (.ref p), some (.int b), some (RS sp), some (.int (w : Int)), some (.int (h : Int)), z5, some (.ref l), some (.int (b / 8)), z8, z9]
theorem mv_body {i j : Nat} {cur : List PT} {S : Sto} {z9 : Option D} (hb : 1 ≤ b ∧ b ≤ 64) (hw : w ≤ 3) (hi : i ≤ 3) (hat : i * (w + 1) + j < sp.length) (M : ML p q l S0 S (b / 8) sp cur (i * (w + 1) + j))
    (nx : ∀ cur' S' z, ML p q l S0 S' (b / 8) sp cur' (i * (w + 1) + j + 1) → E.nx (mEnv p l w h b sp (some (.int (i : Int))) (some (.int (j : Int))) z) S') :
    w__law_moved_4 E Y (mEnv p l w h b sp (some (.int (i : Int))) (some (.int (j : Int))) z9) S := by
  obtain ⟨deal, fr, nlp, nlq, at_l, len, nr, old⟩ := M
  have bi : Bd 20 (i : Int) := bd_s (by omega) (by decide)
  have bw : Bd 20 ((w : Int) + 1) := bd_s (by omega) (by decide)
  have e1 : (i : Int) * ((w : Int) + 1) + (j : Int) = ((i * (w + 1) + j : Nat) : Int) := by norm_cast
  simp only [w__law_moved_4, xseq, w__law_moved_3, xset, x2, PL.v5, v3, PL.v8, xc, oaddI, omulI]
  refine ⟨bi.cmul bw (by decide), ?_⟩
  rw [e1]
  generalize i * (w + 1) + j = k at *
  have hk : k < cur.length := by omega
  have gx : (cur.map DI)[k]? = some (DI (spt cur k)) := by rw [List.getElem?_map, getD_at (d := ((0 : Int), (0 : Int))) hk]; rfl
  have b8 : Bd 20 (8 : Int) := bd_s (by decide) (by decide)
  have c2 : Bd 20 (2 : Int) := bd_s (by decide) (by decide)
  have be : Bd 20 (b / 8) := bd_s (by omega) (by decide)
  have he : 0 ≤ b / 8 ∧ b / 8 ≤ 8 := by omega
  simp only [PL.g9, w__law_moved_2, xset, xtup, xcons, xnil, x2, v6, PL.v9, PL.v7, xc, at_idx at_l gx, PL.iI0, iI1, omulI, oaddI, xcall, v0]
  refine ⟨c2.cmul be (by decide), k_any deal (by omega) (by omega) fun r S1 r0 r1 hd1 f1 => ?_⟩
  have at1 : S1 l = some (.lst (cur.map DI)) := (f1 l nlp nlq).trans at_l
  simp only [oaddI, osubI, at_idx at1 gx, iI1]
  refine ⟨c2.cmul be (by decide), k_any hd1 (by omega) (by omega) fun s S2 s0 s1 hd2 f2 => ?_⟩
  have at2 : S2 l = some (.lst (cur.map DI)) := (f2 l nlp nlq).trans at1
  simp only [oaddI, osubI, xsub, v6, PL.v9]
  refine ⟨two_line, ?_⟩
  rw [setI at2 (by rw [List.length_map]; exact hk)]
  have em : (cur.map DI).set k (.tup [.int ((spt cur k).1 + r - b / 8), .int ((spt cur k).2 + s - b / 8)]) = (cur.set k ((spt cur k).1 + r - b / 8, (spt cur k).2 + s - b / 8)).map DI := by rw [List.map_set]; rfl
  rw [em]
  have ek := old k (Nat.le_refl _) (by omega)
  have sg := fun m (hm : m ≠ k) => spt_set_ne (cur := cur) (v := ((spt cur k).1 + r - b / 8, (spt cur k).2 + s - b / 8)) hm
  have sk := spt_set (v := ((spt cur k).1 + r - b / 8, (spt cur k).2 + s - b / 8)) hk
  refine nx _ _ _ ⟨hd2.put nlp nlq, fun x a b c => ?_, nlp, nlq, sput_at, by rw [List.length_set]; exact len, fun m hm => ?_, fun m h1 h2 => ?_⟩
  · rw [sput_off c, f2 x a b, f1 x a b]; exact fr x a b c
  · by_cases c : m = k
    · subst c
      rw [sk, ek]
      unfold nrP
      dsimp only
      omega
    · rw [sg m c]; exact nr m hm
  · rw [sg m (by omega)]; exact old m (by omega) h2
theorem mv_in {i : Nat} (hb : 1 ≤ b ∧ b ≤ 64) (hw : w ≤ 3) (hi : i ≤ 3) (hl : i * (w + 1) + w ≤ sp.length)
    (nx : ∀ cur' S' z8 z, ML p q l S0 S' (b / 8) sp cur' (i * (w + 1) + w) → E.nx (mEnv p l w h b sp (some (.int (i : Int))) z8 z) S') :
    ∀ (m j : Nat) (cur : List PT) (S : Sto) (z8 z9 : Option D), j + m = w → ML p q l S0 S (b / 8) sp cur (i * (w + 1) + j) → loopD (gVar 8) w__law_moved_4 E Y (intsD (j : Int) m) (mEnv p l w h b sp (some (.int (i : Int))) z8 z9) S
  | 0, j, cur, S, z8, z9, e, M => by
    have : j = w := by omega
    subst this
    exact nx cur S _ _ M
  | m + 1, j, cur, S, z8, z9, e, M => by
    rw [ints_cons]
    simp only [xloop, PL.g8]
    refine mv_body hb hw hi (by omega) M fun cur' S' z M' => ?_
    rw [show (j : Int) + 1 = ((j + 1 : Nat) : Int) by omega]
    exact mv_in hb hw hi hl nx m (j + 1) cur' S' _ _ (by omega) M'
theorem mv_out (hb : 1 ≤ b ∧ b ≤ 64) (hw : 1 ≤ w ∧ w ≤ 3) (hh : h ≤ 3) (hl : sp.length = (w + 1) * (h + 1))
    (nx : ∀ cur' S' z5 z8 z bound, ML p q l S0 S' (b / 8) sp cur' bound → E.nx (mEnv p l w h b sp z5 z8 z) S') :
    ∀ (m i : Nat) (cur : List PT) (S : Sto) (z5 z8 z9 : Option D), i + m = h → ML p q l S0 S (b / 8) sp cur (i * (w + 1) + 1) → loopD (gVar 5) w__law_moved_5 E Y (intsD (i : Int) m) (mEnv p l w h b sp z5 z8 z9) S
  | 0, i, cur, S, z5, z8, z9, e, M => nx cur S _ _ _ _ M
  | m + 1, i, cur, S, z5, z8, z9, e, M => by
    rw [ints_cons]
    simp only [xloop, PL.g5, w__law_moved_5, xfor, xrng2, xcons, xnil, xc, v3]
    refine ⟨by omega, ?_⟩
    have hl2 : i * (w + 1) + w ≤ sp.length := by
      rw [hl]
      have a1 : i * (w + 1) ≤ h * (w + 1) := Nat.mul_le_mul_right _ (by omega)
      have a2 : (w + 1) * (h + 1) = h * (w + 1) + (w + 1) := by rw [Nat.mul_succ, Nat.mul_comm]
      omega
    rw [show ((w : Int) - 1).toNat = w - 1 by omega]
    refine mv_in hb hw.2 (by omega) hl2 ?_ (w - 1) 1 cur S _ _ (by omega) M
    intro cur' S' z8' z' M'
    rw [show (i : Int) + 1 = ((i + 1 : Nat) : Int) by omega]
    exact mv_out hb hw hh hl nx m (i + 1) cur' S' _ _ _ (by omega) (M'.up (by rw [Nat.succ_mul]; omega))
end
theorem does__law_moved : Does c__law_moved w__law_moved N__law_moved 5 := by
  rintro ds S P X ⟨p, q, sp, b, w, h, rfl, hd, ⟨w0, w1, h0, h1, b0, b1⟩, hl, k⟩
  refine ⟨rfl, ?_⟩
  show w__law_moved_9 _ _ [some (.ref p), some (.int b), some (RS sp), some (.int (w : Int)), some (.int (h : Int)), none, none, none, none, none] S
  have l16 : (w + 1) * (h + 1) ≤ 4 * 4 := Nat.mul_le_mul (by omega) (by omega)
  have b8 : Bd 20 (8 : Int) := bd_s (by decide) (by decide)
  simp only [w__law_moved_9, xseq, w__law_moved_8, xpar2, xcons, xnil, xn, v2, x2, v1, xc, odivI]
  have el : ∀ {S : Sto} {P : PD}, oListM true [RS sp] S P = ∀ p, S p = none → P (.ref p) (sput S p (.lst (sp.map DI))) := fun {S P} => rfl
  rw [el]
  intro l hl0
  refine ⟨b8.cdiv (by decide) (by decide), ?_⟩
  simp only [List.set_cons_succ, List.set_cons_zero, w__law_moved_7, xseq, w__law_moved_6, xfor, xrng2, xcons, xnil, xc, v4]
  refine ⟨by omega, ?_⟩
  rw [show ((h : Int) - 1).toNat = h - 1 by omega]
  have z0 : ∀ k, k < sp.length → nrP (b / 8) (spt sp k) (spt sp k) := fun k _ => by unfold nrP; omega
  refine mv_out (q := q) (S0 := S) ⟨b0, b1⟩ ⟨w0, w1⟩ h1 hl ?_ (h - 1) 1 sp _ _ _ _ (by omega) ⟨hd.put (hd.neP hl0) (hd.neQ hl0), fun x _ _ c => sput_off c, hd.neP hl0, hd.neQ hl0, sput_at, rfl, z0, fun _ _ _ => rfl⟩
  intro cur S' z5 z8 z bound M
  simp only [w__law_moved_1]
  refine xpreR (l := l) (es := cur.map DI) rfl M.at_l ?_
  simp only [List.set_cons_succ, List.set_cons_zero, w__law_moved_0, xret, v6]
  exact ⟨sdel S' l, Sub.refl _, k cur _ ⟨M.len, M.nr⟩ (deal_del M.deal M.nlp M.nlq) (fr_del M.fr hl0)⟩
/-! corners round a point -/
theorem DI_inj {a b : PT} (h : DI a = DI b) : a = b := by
  unfold DI at h
  injection h with h
  injection h with h1 h2
  injection h1 with h1
  injection h2 with h2 _
  injection h2 with h2
  exact Prod.ext h1 h2
theorem near_of {n : Nat} {cs : List PT} (h : ∀ y ∈ cs.map DI, Nr n y) : bdP n cs := fun c hc => by
  obtain ⟨a, e, b⟩ := h _ (List.mem_map_of_mem hc)
  rw [DI_inj e]; exact b
def wayF : List PT := [(3, 0), (2, 2), (0, 3), (-2, 2), (-3, 0), (-2, -2), (0, -3), (2, -2)]
def spF (b u : Int) (w : PT) : PT := (b * u * w.1, b * u * w.2)
theorem fan_id (b u v : Int) (c w x : PT) : trn c (spF b u w) (spF b v x) = b * (b * (u * v * (w.1 * x.2 - w.2 * x.1)) - (c.1 * (v * x.2 - u * w.2) - c.2 * (v * x.1 - u * w.1))) := by
  unfold trn spF
  dsimp only
  grind
def cenP (b : Int) (c : PT) : Prop := -(b / 2) ≤ c.1 ∧ c.1 ≤ b - b / 2 ∧ -(b / 2) ≤ c.2 ∧ c.2 ≤ b - b / 2
def facP (u : Int) : Prop := 1 ≤ u ∧ u ≤ 4
theorem fan_tri {b u v : Int} {c : PT} (hb : 1 ≤ b) (hc : cenP b c) (hu : facP u) (hv : facP v) : ∀ i : Nat, i < 8 → 0 < trn c (spF b u (wayF.getD i (0, 0))) (spF b v (wayF.getD ((i + 1) % 8) (0, 0))) := by
  obtain ⟨c1, c2, c3, c4⟩ := hc
  have hu : u = 1 ∨ u = 2 ∨ u = 3 ∨ u = 4 := by unfold facP at hu; omega
  have hv : v = 1 ∨ v = 2 ∨ v = 3 ∨ v = 4 := by unfold facP at hv; omega
  intro i hi
  rw [fan_id]
  refine Int.mul_pos (by omega) ?_
  generalize c.1 = x at *
  generalize c.2 = y at *
  match i, hi with
  | 0, _ => show 0 < b * (u * v * (3 * 2 - 0 * 2)) - (x * (v * 2 - u * 0) - y * (v * 2 - u * 3)); rcases hu with rfl | rfl | rfl | rfl <;> rcases hv with rfl | rfl | rfl | rfl <;> omega
  | 1, _ => show 0 < b * (u * v * (2 * 3 - 2 * 0)) - (x * (v * 3 - u * 2) - y * (v * 0 - u * 2)); rcases hu with rfl | rfl | rfl | rfl <;> rcases hv with rfl | rfl | rfl | rfl <;> omega
  | 2, _ => show 0 < b * (u * v * (0 * 2 - 3 * -2)) - (x * (v * 2 - u * 3) - y * (v * -2 - u * 0)); rcases hu with rfl | rfl | rfl | rfl <;> rcases hv with rfl | rfl | rfl | rfl <;> omega
  | 3, _ => show 0 < b * (u * v * (-2 * 0 - 2 * -3)) - (x * (v * 0 - u * 2) - y * (v * -3 - u * -2)); rcases hu with rfl | rfl | rfl | rfl <;> rcases hv with rfl | rfl | rfl | rfl <;> omega
  | 4, _ => show 0 < b * (u * v * (-3 * -2 - 0 * -2)) - (x * (v * -2 - u * 0) - y * (v * -2 - u * -3)); rcases hu with rfl | rfl | rfl | rfl <;> rcases hv with rfl | rfl | rfl | rfl <;> omega
  | 5, _ => show 0 < b * (u * v * (-2 * -3 - -2 * 0)) - (x * (v * -3 - u * -2) - y * (v * 0 - u * -2)); rcases hu with rfl | rfl | rfl | rfl <;> rcases hv with rfl | rfl | rfl | rfl <;> omega
  | 6, _ => show 0 < b * (u * v * (0 * -2 - -3 * 2)) - (x * (v * -2 - u * -3) - y * (v * 2 - u * 0)); rcases hu with rfl | rfl | rfl | rfl <;> rcases hv with rfl | rfl | rfl | rfl <;> omega
  | 7, _ => show 0 < b * (u * v * (2 * 0 - -2 * 3)) - (x * (v * 0 - u * -2) - y * (v * 3 - u * 2)); rcases hu with rfl | rfl | rfl | rfl <;> rcases hv with rfl | rfl | rfl | rfl <;> omega
/-- the centre and the first corners -/
structure FN (b : Int) (c : PT) (k : Nat) (cur : List PT) : Prop where
  len : cur.length = k + 1
  cen : spt cur 0 = c
  at_ : ∀ i, i < k → ∃ u, facP u ∧ spt cur (i + 1) = spF b u (wayF.getD i (0, 0))
theorem fn_next {b u : Int} {c w : PT} {k : Nat} {cur : List PT} (F : FN b c k cur) (hu : facP u) (hw : wayF.getD k (0, 0) = w) : FN b c (k + 1) (cur ++ [spF b u w]) := by
  have l := F.len
  refine ⟨by rw [List.length_append, List.length_singleton, l], by rw [spt_app (by omega)]; exact F.cen, fun i hi => ?_⟩
  by_cases c : i < k
  · rw [spt_app (by omega)]; exact F.at_ i c
  · have : i = k := by omega
    subst this
    refine ⟨u, hu, ?_⟩
    rw [← l, spt_end, hw]
/-! corners round a point -/
theorem trn_aa (a b : PT) : trn a b a = 0 ∧ trn a b b = 0 := by unfold trn; constructor <;> grind
theorem fan_off {b u v : Int} {c : PT} (hb : 1 ≤ b) (hc : cenP b c) (hu : facP u) (hv : facP v) : ∀ i : Nat, i < 8 → 0 < trn c (spF b u (wayF.getD i (0, 0))) (spF b v (wayF.getD ((i + 2) % 8) (0, 0))) := by
  obtain ⟨c1, c2, c3, c4⟩ := hc
  have hu : u = 1 ∨ u = 2 ∨ u = 3 ∨ u = 4 := by unfold facP at hu; omega
  have hv : v = 1 ∨ v = 2 ∨ v = 3 ∨ v = 4 := by unfold facP at hv; omega
  intro i hi
  rw [fan_id]
  refine Int.mul_pos (by omega) ?_
  generalize c.1 = x at *
  generalize c.2 = y at *
  match i, hi with
  | 0, _ => show 0 < b * (u * v * (3 * 3 - 0 * 0)) - (x * (v * 3 - u * 0) - y * (v * 0 - u * 3)); rcases hu with rfl | rfl | rfl | rfl <;> rcases hv with rfl | rfl | rfl | rfl <;> omega
  | 1, _ => show 0 < b * (u * v * (2 * 2 - 2 * -2)) - (x * (v * 2 - u * 2) - y * (v * -2 - u * 2)); rcases hu with rfl | rfl | rfl | rfl <;> rcases hv with rfl | rfl | rfl | rfl <;> omega
  | 2, _ => show 0 < b * (u * v * (0 * 0 - 3 * -3)) - (x * (v * 0 - u * 3) - y * (v * -3 - u * 0)); rcases hu with rfl | rfl | rfl | rfl <;> rcases hv with rfl | rfl | rfl | rfl <;> omega
  | 3, _ => show 0 < b * (u * v * (-2 * -2 - 2 * -2)) - (x * (v * -2 - u * 2) - y * (v * -2 - u * -2)); rcases hu with rfl | rfl | rfl | rfl <;> rcases hv with rfl | rfl | rfl | rfl <;> omega
  | 4, _ => show 0 < b * (u * v * (-3 * -3 - 0 * 0)) - (x * (v * -3 - u * 0) - y * (v * 0 - u * -3)); rcases hu with rfl | rfl | rfl | rfl <;> rcases hv with rfl | rfl | rfl | rfl <;> omega
  | 5, _ => show 0 < b * (u * v * (-2 * -2 - -2 * 2)) - (x * (v * -2 - u * -2) - y * (v * 2 - u * -2)); rcases hu with rfl | rfl | rfl | rfl <;> rcases hv with rfl | rfl | rfl | rfl <;> omega
  | 6, _ => show 0 < b * (u * v * (0 * 0 - -3 * 3)) - (x * (v * 0 - u * -3) - y * (v * 3 - u * 0)); rcases hu with rfl | rfl | rfl | rfl <;> rcases hv with rfl | rfl | rfl | rfl <;> omega
  | 7, _ => show 0 < b * (u * v * (2 * 2 - -2 * 2)) - (x * (v * 2 - u * -2) - y * (v * 2 - u * 2)); rcases hu with rfl | rfl | rfl | rfl <;> rcases hv with rfl | rfl | rfl | rfl <;> omega
def dirF : List PT := [(1, 0), (1, 1), (0, 1), (-1, 1), (-1, 0), (-1, -1), (0, -1), (1, -1)]
def dt (d v : PT) : Int := d.1 * v.1 + d.2 * v.2
theorem fan_dir {b u : Int} {c : PT} (hb : 1 ≤ b) (hc : cenP b c) (hu : facP u) : ∀ i : Nat, i < 8 →
    dt (dirF.getD i (0, 0)) c < dt (dirF.getD i (0, 0)) (spF b u (wayF.getD i (0, 0))) ∧ dt (dirF.getD i (0, 0)) c < dt (dirF.getD i (0, 0)) (spF b u (wayF.getD ((i + 1) % 8) (0, 0))) ∧
    dt (dirF.getD i (0, 0)) (spF b u (wayF.getD ((i + 3) % 8) (0, 0))) < dt (dirF.getD i (0, 0)) c ∧ dt (dirF.getD i (0, 0)) (spF b u (wayF.getD ((i + 4) % 8) (0, 0))) < dt (dirF.getD i (0, 0)) c ∧ dt (dirF.getD i (0, 0)) (spF b u (wayF.getD ((i + 5) % 8) (0, 0))) < dt (dirF.getD i (0, 0)) c := by
  obtain ⟨c1, c2, c3, c4⟩ := hc
  have bu : b ≤ b * u := by
    have := Int.mul_le_mul_of_nonneg_left (show 1 ≤ u from hu.1) (show 0 ≤ b by omega)
    rwa [Int.mul_one] at this
  intro i hi
  unfold spF dt
  generalize b * u = q at *
  generalize c.1 = x at *
  generalize c.2 = y at *
  match i, hi with
  | 0, _ => show 1 * x + 0 * y < 1 * (q * 3) + 0 * (q * 0) ∧ 1 * x + 0 * y < 1 * (q * 2) + 0 * (q * 2) ∧ 1 * (q * -2) + 0 * (q * 2) < 1 * x + 0 * y ∧ 1 * (q * -3) + 0 * (q * 0) < 1 * x + 0 * y ∧ 1 * (q * -2) + 0 * (q * -2) < 1 * x + 0 * y; refine ⟨?_, ?_, ?_, ?_, ?_⟩ <;> omega
  | 1, _ => show 1 * x + 1 * y < 1 * (q * 2) + 1 * (q * 2) ∧ 1 * x + 1 * y < 1 * (q * 0) + 1 * (q * 3) ∧ 1 * (q * -3) + 1 * (q * 0) < 1 * x + 1 * y ∧ 1 * (q * -2) + 1 * (q * -2) < 1 * x + 1 * y ∧ 1 * (q * 0) + 1 * (q * -3) < 1 * x + 1 * y; refine ⟨?_, ?_, ?_, ?_, ?_⟩ <;> omega
  | 2, _ => show 0 * x + 1 * y < 0 * (q * 0) + 1 * (q * 3) ∧ 0 * x + 1 * y < 0 * (q * -2) + 1 * (q * 2) ∧ 0 * (q * -2) + 1 * (q * -2) < 0 * x + 1 * y ∧ 0 * (q * 0) + 1 * (q * -3) < 0 * x + 1 * y ∧ 0 * (q * 2) + 1 * (q * -2) < 0 * x + 1 * y; refine ⟨?_, ?_, ?_, ?_, ?_⟩ <;> omega
  | 3, _ => show -1 * x + 1 * y < -1 * (q * -2) + 1 * (q * 2) ∧ -1 * x + 1 * y < -1 * (q * -3) + 1 * (q * 0) ∧ -1 * (q * 0) + 1 * (q * -3) < -1 * x + 1 * y ∧ -1 * (q * 2) + 1 * (q * -2) < -1 * x + 1 * y ∧ -1 * (q * 3) + 1 * (q * 0) < -1 * x + 1 * y; refine ⟨?_, ?_, ?_, ?_, ?_⟩ <;> omega
  | 4, _ => show -1 * x + 0 * y < -1 * (q * -3) + 0 * (q * 0) ∧ -1 * x + 0 * y < -1 * (q * -2) + 0 * (q * -2) ∧ -1 * (q * 2) + 0 * (q * -2) < -1 * x + 0 * y ∧ -1 * (q * 3) + 0 * (q * 0) < -1 * x + 0 * y ∧ -1 * (q * 2) + 0 * (q * 2) < -1 * x + 0 * y; refine ⟨?_, ?_, ?_, ?_, ?_⟩ <;> omega
  | 5, _ => show -1 * x + -1 * y < -1 * (q * -2) + -1 * (q * -2) ∧ -1 * x + -1 * y < -1 * (q * 0) + -1 * (q * -3) ∧ -1 * (q * 3) + -1 * (q * 0) < -1 * x + -1 * y ∧ -1 * (q * 2) + -1 * (q * 2) < -1 * x + -1 * y ∧ -1 * (q * 0) + -1 * (q * 3) < -1 * x + -1 * y; refine ⟨?_, ?_, ?_, ?_, ?_⟩ <;> omega
  | 6, _ => show 0 * x + -1 * y < 0 * (q * 0) + -1 * (q * -3) ∧ 0 * x + -1 * y < 0 * (q * 2) + -1 * (q * -2) ∧ 0 * (q * 2) + -1 * (q * 2) < 0 * x + -1 * y ∧ 0 * (q * 0) + -1 * (q * 3) < 0 * x + -1 * y ∧ 0 * (q * -2) + -1 * (q * 2) < 0 * x + -1 * y; refine ⟨?_, ?_, ?_, ?_, ?_⟩ <;> omega
  | 7, _ => show 1 * x + -1 * y < 1 * (q * 2) + -1 * (q * -2) ∧ 1 * x + -1 * y < 1 * (q * 3) + -1 * (q * 0) ∧ 1 * (q * 0) + -1 * (q * 3) < 1 * x + -1 * y ∧ 1 * (q * -2) + -1 * (q * 2) < 1 * x + -1 * y ∧ 1 * (q * -3) + -1 * (q * 0) < 1 * x + -1 * y; refine ⟨?_, ?_, ?_, ?_, ?_⟩ <;> omega
theorem dir_ne : ∀ i : Nat, i < 8 → ¬ ((dirF.getD i (0, 0)).1 = 0 ∧ (dirF.getD i (0, 0)).2 = 0) := by decide
theorem trn_dir (d c v : PT) : trn c (c.1 - d.2, c.2 + d.1) v = dt d c - dt d v := by unfold trn dt; dsimp only; grind
abbrev fanT (k : Nat) : TR := (0, k + 1, 1 + (k + 1) % 8)
section
variable {b : Int} {c : PT} {cur : List PT}
theorem fan_pos (hb : 1 ≤ b) (hc : cenP b c) (F : FN b c 8 cur) {k : Nat} (hk : k < 8) : 0 < trn (spt cur 0) (spt cur (k + 1)) (spt cur (1 + (k + 1) % 8)) := by
  obtain ⟨u, hu, e1⟩ := F.at_ k hk
  obtain ⟨v, hv, e2⟩ := F.at_ ((k + 1) % 8) (Nat.mod_lt _ (by decide))
  rw [F.cen, e1, show 1 + (k + 1) % 8 = (k + 1) % 8 + 1 by omega, e2]
  exact fan_tri hb hc hu hv k hk
/-- one of the next two -/
theorem fan_near (hb : 1 ≤ b) (hc : cenP b c) (F : FN b c 8 cur) {k m : Nat} (hk : k < 8) (hm : m = (k + 1) % 8 ∨ m = (k + 2) % 8) : Dis cur (fanT k) (fanT m) := by
  have hm8 : m < 8 := by omega
  have T1 := fan_pos hb hc F hk
  have T2 := fan_pos hb hc F hm8
  obtain ⟨n1, n2, n3⟩ := pos_ne T1
  refine sep_line (a := spt cur 0) (b := spt cur (1 + (k + 1) % 8)) T1 T2 (fun e => n3 e.symm) ⟨?_, ?_, ?_⟩ ⟨?_, ?_, ?_⟩
  · rw [(trn_aa _ _).1]; exact Int.le_refl _
  · dsimp only
    have e := trn_swap (spt cur 0) (spt cur (1 + (k + 1) % 8)) (spt cur (k + 1))
    have r := trn_rot (spt cur 0) (spt cur (1 + (k + 1) % 8)) (spt cur (k + 1))
    have r2 := trn_rot (spt cur 0) (spt cur (k + 1)) (spt cur (1 + (k + 1) % 8))
    have s := trn_swap (spt cur (k + 1)) (spt cur (1 + (k + 1) % 8)) (spt cur 0)
    omega
  · rw [(trn_aa _ _).2]; exact Int.le_refl _
  · rw [(trn_aa _ _).1]; exact Int.le_refl _
  · dsimp only
    rcases hm with rfl | rfl
    · rw [show (k + 1) % 8 + 1 = 1 + (k + 1) % 8 by omega, (trn_aa _ _).2]; exact Int.le_refl _
    · have := fan_pos hb hc F (k := (k + 1) % 8) (Nat.mod_lt _ (by decide))
      rw [show 1 + ((k + 1) % 8 + 1) % 8 = (k + 2) % 8 + 1 by omega, show (k + 1) % 8 + 1 = 1 + (k + 1) % 8 by omega] at this
      exact Int.le_of_lt this
  · dsimp only
    rcases hm with rfl | rfl
    · have := fan_pos hb hc F (k := (k + 1) % 8) (Nat.mod_lt _ (by decide))
      rw [show (k + 1) % 8 + 1 = 1 + (k + 1) % 8 by omega] at this
      rw [show 1 + ((k + 1) % 8 + 1) % 8 = 1 + (1 + (k + 1) % 8) % 8 by omega]
      exact Int.le_of_lt this
    · obtain ⟨u, hu, e1⟩ := F.at_ ((k + 1) % 8) (Nat.mod_lt _ (by decide))
      obtain ⟨v, hv, e2⟩ := F.at_ (((k + 1) % 8 + 2) % 8) (Nat.mod_lt _ (by decide))
      have := fan_off hb hc hu hv ((k + 1) % 8) (Nat.mod_lt _ (by decide))
      rw [← e1, ← e2, ← F.cen] at this
      rw [show 1 + ((k + 2) % 8 + 1) % 8 = ((k + 1) % 8 + 2) % 8 + 1 by omega, show 1 + (k + 1) % 8 = (k + 1) % 8 + 1 by omega]
      exact Int.le_of_lt this
/-- on the other side -/
theorem fan_far (hb : 1 ≤ b) (hc : cenP b c) (F : FN b c 8 cur) {k m : Nat} (hk : k < 8) (hm : m = (k + 3) % 8 ∨ m = (k + 4) % 8) : Dis cur (fanT k) (fanT m) := by
  have hm8 : m < 8 := by omega
  have T1 := fan_pos hb hc F hk
  have T2 := fan_pos hb hc F hm8
  have one : ∀ j, j < 8 → ∃ u, facP u ∧ spt cur (j + 1) = spF b u (wayF.getD j (0, 0)) := F.at_
  have nz := dir_ne k hk
  have dirs := fun {u : Int} (hu : facP u) => fan_dir hb hc hu k hk
  generalize dirF.getD k (0, 0) = d at *
  refine sep_line (a := c) (b := (c.1 - d.2, c.2 + d.1)) T1 T2 (fun e => nz ?_) ⟨?_, ?_, ?_⟩ ⟨?_, ?_, ?_⟩
  · have h1 := congrArg Prod.fst e
    have h2 := congrArg Prod.snd e
    dsimp only at h1 h2
    omega
  · rw [trn_dir, F.cen]; omega
  · obtain ⟨u, hu, e⟩ := one k hk
    have := dirs hu
    rw [trn_dir]
    show dt d c - dt d (spt cur (k + 1)) ≤ 0
    rw [e]; omega
  · obtain ⟨u, hu, e⟩ := one ((k + 1) % 8) (Nat.mod_lt _ (by decide))
    have := dirs hu
    rw [trn_dir]
    show dt d c - dt d (spt cur (1 + (k + 1) % 8)) ≤ 0
    rw [show 1 + (k + 1) % 8 = (k + 1) % 8 + 1 by omega, e]; omega
  · rw [trn_dir, F.cen]; omega
  · obtain ⟨u, hu, e⟩ := one m hm8
    have := dirs hu
    rw [trn_dir]
    show 0 ≤ dt d c - dt d (spt cur (m + 1))
    rw [e]
    rcases hm with rfl | rfl <;> omega
  · obtain ⟨u, hu, e⟩ := one ((m + 1) % 8) (Nat.mod_lt _ (by decide))
    have := dirs hu
    rw [trn_dir]
    show 0 ≤ dt d c - dt d (spt cur (1 + (m + 1) % 8))
    rw [show 1 + (m + 1) % 8 = (m + 1) % 8 + 1 by omega, e]
    rcases hm with rfl | rfl
    · rw [show ((k + 3) % 8 + 1) % 8 = (k + 4) % 8 by omega]; omega
    · rw [show ((k + 4) % 8 + 1) % 8 = (k + 5) % 8 by omega]; omega
theorem fan_flat (hb : 1 ≤ b) (hc : cenP b c) (F : FN b c 8 cur) : Flat cur ([1, 2, 3, 4, 5, 6, 7, 8].map fun n => (0, n, 1 + n % 8)) := by
  have e : ([1, 2, 3, 4, 5, 6, 7, 8].map fun n => ((0, n, 1 + n % 8) : TR)) = (List.range 8).map fanT := rfl
  rw [e]
  refine flat_pw (List.pairwise_map.mpr ((List.pairwise_lt_range).imp_of_mem fun {k m} hk hm h => ?_))
  have hk := List.mem_range.mp hk
  have hm := List.mem_range.mp hm
  have c : m - k = 1 ∨ m - k = 2 ∨ m - k = 3 ∨ m - k = 4 ∨ m - k = 5 ∨ m - k = 6 ∨ m - k = 7 := by omega
  rcases c with c | c | c | c | c | c | c
  · exact fan_near hb hc F hk (by omega)
  · exact fan_near hb hc F hk (by omega)
  · exact fan_far hb hc F hk (by omega)
  · exact fan_far hb hc F hk (by omega)
  · exact (fan_far hb hc F hm (by omega)).symm
  · exact (fan_near hb hc F hm (by omega)).symm
  · exact (fan_near hb hc F hm (by omega)).symm
end
theorem fan_mo {b : Int} {c : PT} {cur : List PT} (hb : 1 ≤ b) (hc : cenP b c) (F : FN b c 8 cur) (B : bdP 400 cur) : MO 400 9 8 cur ([1, 2, 3, 4, 5, 6, 7, 8].map fun n => (0, n, 1 + n % 8)) := by
  have l := F.len
  refine ⟨fun t ht => ?_, B, by omega, by decide, by decide, fun f hf => ?_, fan_flat hb hc F⟩
  rotate_left
  · have one : ∀ i, i < cur.length → f i = f 0 := fun i hi => by
      by_cases c : i = 0
      · rw [c]
      · have := hf (0, i, 1 + i % 8) (List.mem_map.mpr ⟨i, by simp only [List.mem_cons, List.not_mem_nil, or_false]; omega, rfl⟩)
        exact this.1.symm
    intro i j hi hj
    rw [one i hi, one j hj]
  obtain ⟨n, hn, rfl⟩ := List.mem_map.mp ht
  have hn : 1 ≤ n ∧ n ≤ 8 := by
    simp only [List.mem_cons, List.not_mem_nil, or_false] at hn
    omega
  obtain ⟨u, hu, e1⟩ := F.at_ (n - 1) (by omega)
  obtain ⟨v, hv, e2⟩ := F.at_ (n % 8) (by omega)
  refine ⟨⟨by dsimp only; omega, by dsimp only; omega, by dsimp only; omega⟩, ?_⟩
  dsimp only
  rw [F.cen, show n = n - 1 + 1 by omega, e1, show 1 + (n - 1 + 1) % 8 = n % 8 + 1 by omega, e2, show n % 8 = (n - 1 + 1) % 8 by omega]
  exact fan_tri hb hc hu hv (n - 1) (by omega)
section
variable {E : EndD} {Y : XS} {p q l : Addr} {S0 : Sto} {b : Int} {c : PT}
theorem way_small {w : PT} (h : w ∈ wayF) : -3 ≤ w.1 ∧ w.1 ≤ 3 ∧ -3 ≤ w.2 ∧ w.2 ≤ 3 := by
  simp only [wayF, List.mem_cons, List.not_mem_nil, or_false] at h
  rcases h with rfl | rfl | rfl | rfl | rfl | rfl | rfl | rfl <;> decide
theorem sm_mul {x y : Int} {m n : Nat} (hx : x.natAbs ≤ m) (hy : y.natAbs ≤ n) : (x * y).natAbs ≤ m * n := by
  rw [Int.natAbs_mul]; exact Nat.mul_le_mul hx hy
theorem fan_loop (hb : 1 ≤ b ∧ b ≤ 30) (nx : ∀ cur S' z4 z5, Tl p q l 400 S0 S' (cur.map DI) → FN b c 8 cur → E.nx [some (.ref p), some (.int b), some (.lst (wayF.map DI)), some (.ref l), z4, z5, none] S') :
    ∀ (ws pre cur : List PT) (S : Sto) (z4 z5 : Option D), pre ++ ws = wayF → Tl p q l 400 S0 S (cur.map DI) → FN b c pre.length cur → loopD (gVar 4) w__law_fan_4 E Y (ws.map DI) [some (.ref p), some (.int b), some (.lst (wayF.map DI)), some (.ref l), z4, z5, none] S
  | [], pre, cur, S, z4, z5, e, T, F => by
    rw [List.append_nil] at e
    subst e
    exact nx cur S z4 z5 T F
  | w :: ws, pre, cur, S, z4, z5, e, T, F => by
    have hw : w ∈ wayF := by rw [← e]; simp
    have hg : wayF.getD pre.length (0, 0) = w := by
      rw [← e, List.getD_eq_getElem?_getD, List.getElem?_append_right (Nat.le_refl _), Nat.sub_self]; rfl
    have hp : pre.length + (ws.length + 1) = 8 := by
      have := congrArg List.length e
      rw [List.length_append, List.length_cons] at this
      exact this
    obtain ⟨w1, w2, w3, w4⟩ := way_small hw
    have fl := F.len
    rw [List.map_cons, xloop]
    simp only [g4, w__law_fan_4, xseq, w__law_fan_3, xset, x2, v1, xc, xcall, xcons, xnil, v0]
    refine k_any T.deal (by decide) (by decide) fun r S1 r0 r1 hd1 f1 => ?_
    have T1 := T.step hd1 f1
    have bb : Bd 20 b := bd_s (by omega) (by decide)
    have q1 : (b * (1 + r)).natAbs ≤ 30 * 4 := sm_mul (by omega) (by omega)
    have q2 : (b * (1 + r) * w.1).natAbs ≤ 30 * 4 * 3 := sm_mul q1 (by omega)
    have q3 : (b * (1 + r) * w.2).natAbs ≤ 30 * 4 * 3 := sm_mul q1 (by omega)
    have bs : Bd 20 (b * (1 + r)) := bd_s (by omega) (by decide)
    have bw1 : Bd 20 w.1 := bd_s (by omega) (by decide)
    have bw2 : Bd 20 w.2 := bd_s (by omega) (by decide)
    simp only [oaddI, omulI]
    refine ⟨bb.cmul (bd_s (k := 20) (by omega) (by decide)) (by decide), ?_⟩
    simp only [PL.g5, w__law_fan_2, xexpr, xapp, v3, isl T1.at_l, true_and, xtup, xcons, xnil, x2, v4, PL.v5, xc, PL.iI0, iI1, omulI]
    refine ⟨bs.cmul bw1 (by decide), bs.cmul bw2 (by decide), two_line, ?_⟩
    rw [app_at T1.at_l]
    refine ⟨?_, ?_⟩
    · rw [List.length_map]; exact Nat.lt_of_lt_of_le (show cur.length < 1000 by omega) (le_line (Nat.le_refl _))
    · have em : cur.map DI ++ [.tup [.int (b * (1 + r) * w.1), .int (b * (1 + r) * w.2)]] = (cur ++ [spF b (1 + r) w]).map DI := by rw [List.map_append]; rfl
      rw [em]
      refine fan_loop hb nx ws (pre ++ [w]) _ _ _ _ (by rw [List.append_assoc]; exact e) (T1.put fun y hy => ?_) ?_
      · rw [List.map_append] at hy
        rcases List.mem_append.mp hy with hy | hy
        · exact T1.near y hy
        · rw [List.map_singleton, List.mem_singleton] at hy
          rw [hy]
          exact ⟨_, rfl, by unfold spF; dsimp only; omega, by unfold spF; dsimp only; omega⟩
      · rw [List.length_append, List.length_singleton]
        exact fn_next F ⟨by omega, by omega⟩ hg
end
theorem two_le2 {a b : D} : [a, b].length ≤ sizeLine := two_line
theorem does__law_fan : Does c__law_fan w__law_fan N__law_fan 2 := by
  rintro ds S P X ⟨p, q, b, rfl, hd, ⟨b0, b1⟩, h⟩
  refine ⟨rfl, ?_⟩
  have b2 : Bd 20 (2 : Int) := bd_s (by decide) (by decide)
  show w__law_fan_10 _ _ [some (.ref p), some (.int b), none, none, none, none, none] S
  simp only [w__law_fan_10, xseq, w__law_fan_9, xset, xlst, xtup, xcons, xnil, x1, xc, onegI]
  simp only [show ∀ a b : D, [a, b].length ≤ sizeLine from fun _ _ => le_line (by simp), true_and]
  refine ⟨le_line (by simp), ?_⟩
  show gVar 2 (.lst (wayF.map DI)) _ _ _ _
  simp only [g2, w__law_fan_8, xseq, w__law_fan_7, xset, xnew, xtup, xcons, xnil, x2, xcall, v0, v1, xc, oaddI]
  refine k_any hd (by omega) (by omega) fun r S1 r0 r1 hd1 f1 => ?_
  simp only [odivI, osubI]
  refine ⟨b2.cdiv (by decide) (by decide), ?_⟩
  refine k_any hd1 (by omega) (by omega) fun s S2 s0 s1 hd2 f2 => ?_
  simp only [odivI, osubI]
  refine ⟨b2.cdiv (by decide) (by decide), two_line, le_line (by simp), fun l hl => ?_⟩
  simp only [g3, w__law_fan_6, xseq, w__law_fan_5, xfor, xitems, v2]
  have f12 := f1.trans f2
  have hl0 := fr_none hd2 f12 hl
  have ce : cenP b (r - b / 2, s - b / 2) := by unfold cenP; dsimp only; omega
  have T0 : Tl p q l 400 S (sput S2 l (.lst [DI (r - b / 2, s - b / 2)])) (([(r - b / 2, s - b / 2)] : List PT).map DI) := ⟨hd2.put (hd2.neP hl) (hd2.neQ hl), fun x a b c => by rw [sput_off c]; exact f12 x a b, hl0, hd2.neP hl, hd2.neQ hl, sput_at, fun y hy => by
    rw [List.map_singleton, List.mem_singleton] at hy
    rw [hy]
    exact ⟨_, rfl, by dsimp only; omega, by dsimp only; omega⟩⟩
  show loopD _ _ _ _ (wayF.map DI) _ _
  refine fan_loop (q := q) (S0 := S) (c := (r - b / 2, s - b / 2)) ⟨b0, b1⟩ ?_ wayF [] _ _ _ _ rfl T0 ⟨rfl, rfl, fun i hi => absurd hi (Nat.not_lt_zero _)⟩
  intro cur S' z4 z5 T F
  simp only [w__law_fan_1]
  refine xpreR (l := l) (es := cur.map DI) rfl T.at_l ?_
  obtain ⟨gd, gf⟩ := T.gone
  simp only [List.set_cons_succ, List.set_cons_zero, w__law_fan_0, xret, xtup, xcons, xnil, v3]
  refine lcM_go (fun n : Nat => .int (n : Int)) (fun n => TD (0, n, 1 + n % 8)) [1, 2, 3, 4, 5, 6, 7, 8] (fun Q hq => ?_) (le_line (by simp)) (fun n hn S1 R hR => ?_) ?_
  · simp only [xrng2, xcons, xnil, xc]
    exact ⟨by decide, hq⟩
  · have w6 : ∀ {a b c d e f g : Option D}, wipeD [a, b, c, d, e, f, g] [6] = [a, b, c, d, e, f, none] := rfl
    simp only [w6, g6, xlst, xcons, xnil, xc, v6, x2, xn, ointI, omodI, oaddI]
    refine ⟨by decide, tri3, ?_⟩
    have e : D.lst [.int 0, .int (n : Int), .int (1 + (n : Int) % 8)] = TD (0, n, 1 + n % 8) := by simp [TD]
    rw [e]; exact hR
  · have em : ([1, 2, 3, 4, 5, 6, 7, 8].map fun n => TD (0, n, 1 + n % 8)) = (([1, 2, 3, 4, 5, 6, 7, 8].map fun n => ((0, n, 1 + n % 8) : TR))).map TD := rfl
    rw [em]
    exact ⟨two_line, _, Sub.refl _, h cur _ _ (fan_mo b0 ce F (near_of T.near)) gd gf⟩
/-! a triangle split again and again -/
theorem k_split {p q : Addr} {b n m : Nat} {sp : List PT} {tr : List TR} {e : Int} {S : Sto} {P : PD} {X : PX} (hd : Deal S p q) (hs : b ≤ 2000 ∧ n ≤ 40 ∧ m ≤ 100) (M : MO b n m sp tr) (dv : dvP (4 * e) sp)
    (k : ∀ sp' tr' S', MO b (n + 1) (m + 2) sp' tr' → dvP e sp' → Deal S' p q → Fr p q S S' → P (.tup [RS sp', RT tr']) S') : c__law_split [.ref p, RS sp, RT tr] S P X := ⟨p, q, b, n, m, sp, tr, e, rfl, hd, hs, M, dv, k⟩
theorem part_body {E : EndD} {Y : XS} {p q : Addr} {S : Sto} {b th e f : Int} {i n m : Nat} {sp : List PT} {tr : List TR} (hi : ([D.int 4, D.int 16, D.int 64] : List D)[i]? = some (.int th)) (hn : n ≤ 10) (hm : m ≤ 10) (hd : Deal S p q) (M : MO 400 n m sp tr) (dv : dvP e sp)
    (c1 : th ≤ b → e = 4 * f) (c2 : f ∣ e) (nx : ∀ sp' tr' S', MO 400 (n + 1) (m + 2) sp' tr' → dvP f sp' → Deal S' p q → Fr p q S S' → E.nx [some (.ref p), some (.int b), some (RS sp'), some (RT tr'), some (.int (i : Int))] S') :
    w__law_parted_2 E Y [some (.ref p), some (.int b), some (RS sp), some (RT tr), some (.int (i : Int))] S := by
  simp only [w__law_parted_2, xsif, xbl, x2, v1, xlst, xcons, xnil, xc, v4]
  refine ⟨tri3, ?_⟩
  rw [lx hi]
  simp only [ocmpI]
  by_cases h : th ≤ b
  · have := c1 h
    subst this
    simp only [decide_eq_true h, if_true, w__law_parted_1, xset, xcall, xcons, xnil, v0, v2, v3]
    refine k_split hd ⟨by decide, by omega, by omega⟩ M dv fun sp' tr' S' M' dv' hd' fr => ?_
    rw [g2p]
    simp only [List.set_cons_succ, List.set_cons_zero]
    exact nx sp' tr' S' M' dv' hd' fr
  · simp only [decide_eq_false h, Bool.false_eq_true, if_false, xskip]
    exact nx sp tr S ⟨M.ok, M.bd, by have := M.ls; omega, by have := M.lt; omega, M.ne, M.cn, M.fl⟩ (fun c hc => ⟨Int.dvd_trans c2 (dv c hc).1, Int.dvd_trans c2 (dv c hc).2⟩) hd (Fr.refl S)
theorem part_mo {b x y z w : Int} (hb : 1 ≤ b ∧ b ≤ 64) (hx : 0 ≤ x ∧ x < 4) (hy : 0 ≤ y ∧ y < 2) (hz : 0 ≤ z ∧ z < 3) (hw : 0 ≤ w ∧ w < 4) : MO 400 3 1 [(0, 0), (b * (2 + x), b * y), (b * z, b * (2 + w))] [(0, 1, 2)] ∧ dvP b [(0, 0), (b * (2 + x), b * y), (b * z, b * (2 + w))] := by
  have s1 : (b * (2 + x)).natAbs ≤ 64 * 5 := sm_mul (by omega) (by omega)
  have s2 : (b * y).natAbs ≤ 64 * 1 := sm_mul (by omega) (by omega)
  have s3 : (b * z).natAbs ≤ 64 * 2 := sm_mul (by omega) (by omega)
  have s4 : (b * (2 + w)).natAbs ≤ 64 * 5 := sm_mul (by omega) (by omega)
  refine ⟨⟨fun t ht => ?_, fun c hc => ?_, by simp, by simp, by simp, fun f hf => ?_, fun n p _ => List.countP_le_length⟩, fun c hc => ?_⟩
  · rw [List.mem_singleton.mp ht]
    refine ⟨⟨by simp, by simp, by simp⟩, ?_⟩
    show 0 < (b * (2 + x) - 0) * (b * (2 + w) - 0) - (b * y - 0) * (b * z - 0)
    have e : (b * (2 + x) - 0) * (b * (2 + w) - 0) - (b * y - 0) * (b * z - 0) = b * b * ((2 + x) * (2 + w) - y * z) := by grind
    rw [e]
    refine Int.mul_pos (Int.mul_pos (by omega) (by omega)) ?_
    have m1 : 2 * 2 ≤ (2 + x) * (2 + w) := Int.mul_le_mul (by omega) (by omega) (by omega) (by omega)
    have m2 : y * z ≤ 1 * 2 := Int.mul_le_mul (by omega) (by omega) (by omega) (by omega)
    omega
  · simp only [List.mem_cons, List.not_mem_nil, or_false] at hc
    rcases hc with rfl | rfl | rfl <;> dsimp only <;> omega
  · have a := hf (0, 1, 2) List.mem_cons_self
    dsimp only at a
    have one : ∀ i, i < 3 → f i = f 0 := fun i hi => by
      match i, hi with
      | 0, _ => rfl
      | 1, _ => exact a.1.symm
      | 2, _ => rw [← a.2, ← a.1]
    intro i j hi hj
    rw [one i hi, one j hj]
  · simp only [List.mem_cons, List.not_mem_nil, or_false] at hc
    rcases hc with rfl | rfl | rfl
    · exact ⟨Int.dvd_zero _, Int.dvd_zero _⟩
    · exact ⟨Int.dvd_mul_right _ _, Int.dvd_mul_right _ _⟩
    · exact ⟨Int.dvd_mul_right _ _, Int.dvd_mul_right _ _⟩
theorem does__law_parted : Does c__law_parted w__law_parted N__law_parted 2 := by
  rintro ds S P X ⟨p, q, b, rfl, hd, hb, h⟩
  refine ⟨rfl, ?_⟩
  show w__law_parted_8 _ _ [some (.ref p), some (.int b), none, none, none] S
  have hb2 : 1 ≤ b ∧ b ≤ 64 := by omega
  have bb : Bd 20 b := bd_s (by omega) (by decide)
  have sm : ∀ {x : Int}, 0 ≤ x → x < 10 → Bd 20 x := fun h1 h2 => bd_s (by omega) (by decide)
  simp only [w__law_parted_8, xseq, w__law_parted_7, xset, xlst, xtup, xcons, xnil, xc, x2, v1, v0, xcall]
  refine ⟨two_line, k_any hd (by decide) (by decide) fun x S1 x0 x1 hd1 f1 => ?_⟩
  simp only [oaddI, omulI]
  refine ⟨bb.cmul (sm (x := 2 + x) (by omega) (by omega)) (by decide), k_any hd1 (by decide) (by decide) fun y S2 y0 y1 hd2 f2 => ?_⟩
  simp only [oaddI, omulI]
  refine ⟨bb.cmul (sm y0 (by omega)) (by decide), two_line, k_any hd2 (by decide) (by decide) fun z S3 z0 z1 hd3 f3 => ?_⟩
  simp only [oaddI, omulI]
  refine ⟨bb.cmul (sm z0 (by omega)) (by decide), k_any hd3 (by decide) (by decide) fun w S4 w0 w1 hd4 f4 => ?_⟩
  simp only [oaddI, omulI]
  refine ⟨bb.cmul (sm (x := 2 + w) (by omega) (by omega)) (by decide), two_line, tri3, ?_⟩
  obtain ⟨M, dv⟩ := part_mo hb2 ⟨x0, x1⟩ ⟨y0, y1⟩ ⟨z0, z1⟩ ⟨w0, w1⟩
  have f14 := ((f1.trans f2).trans f3).trans f4
  have e1 : (D.lst [.tup [.int 0, .int 0], .tup [.int (b * (2 + x)), .int (b * y)], .tup [.int (b * z), .int (b * (2 + w))]]) = RS [(0, 0), (b * (2 + x), b * y), (b * z, b * (2 + w))] := rfl
  rw [e1]
  generalize [((0 : Int), (0 : Int)), (b * (2 + x), b * y), (b * z, b * (2 + w))] = sp at *
  simp only [g2, w__law_parted_6, xseq, w__law_parted_5, xset, xlst, xcons, xnil, xc]
  refine ⟨tri3, le_line (by simp), ?_⟩
  have e2 : (D.lst [.lst [.int 0, .int 1, .int 2]]) = RT [(0, 1, 2)] := rfl
  rw [e2]
  simp only [g3, w__law_parted_4, xseq, w__law_parted_3, xfor, xrngA, xcons, xnil, xc]
  refine ⟨by decide, ?_⟩
  rw [show intsD 0 ((3 : Int).toNat) = [.int ((0 : Nat) : Int), .int ((1 : Nat) : Int), .int ((2 : Nat) : Int)] from rfl, xloop]
  simp only [g4]
  have key : ∃ e0 e1 e2 e3 : Int, dvP e0 sp ∧ (4 ≤ b → e0 = 4 * e1) ∧ e1 ∣ e0 ∧ (16 ≤ b → e1 = 4 * e2) ∧ e2 ∣ e1 ∧ (64 ≤ b → e2 = 4 * e3) ∧ e3 ∣ e2 := by
    rcases hb with rfl | rfl | rfl | rfl
    · exact ⟨1, 1, 1, 1, dv, by decide, by decide, by decide, by decide, by decide, by decide⟩
    · exact ⟨4, 1, 1, 1, dv, by decide, by decide, by decide, by decide, by decide, by decide⟩
    · exact ⟨16, 4, 1, 1, dv, by decide, by decide, by decide, by decide, by decide, by decide⟩
    · exact ⟨64, 16, 4, 1, dv, by decide, by decide, by decide, by decide, by decide, by decide⟩
  obtain ⟨d0, d1, d2, d3, k0, k1, k2, k3, k4, k5, k6⟩ := key
  refine part_body (i := 0) rfl (by decide) (by decide) hd4 M k0 k1 k2 fun sp1 tr1 S5 M1 v1' h5 f5 => ?_
  dsimp only
  rw [xloop]
  simp only [g4]
  refine part_body (i := 1) rfl (by decide) (by decide) h5 M1 v1' k3 k4 fun sp2 tr2 S6 M2 v2' h6 f6 => ?_
  dsimp only
  rw [xloop]
  simp only [g4]
  refine part_body (i := 2) rfl (by decide) (by decide) h6 M2 v2' k5 k6 fun sp3 tr3 S7 M3 v3' h7 f7 => ?_
  dsimp only
  rw [xloopN]
  simp only [w__law_parted_0, xret, xtup, xcons, xnil, v2, v3]
  exact ⟨two_line, S7, Sub.refl _, h sp3 tr3 S7 M3 h7 (((f14.trans f5).trans f6).trans f7)⟩
/-! the mesh in its form -/
theorem eqv_int (i j : Int) : PyData.eqv (.int i) (.int j) = decide (i = j) := by
  have e : PyData.eqv (.int i) (.int j) = (i == j) := by simp [PyData.eqv]
  rw [e, Bool.eq_iff_iff, beq_iff_eq, decide_eq_true_eq]
theorem xindex {u v : WE} {r : PL.Env} {S : Sto} {P : PD} {X : PX} : wIndex u v r S P X = u r S (fun x S1 => (∃ ds, lstOf S1 x = some ds) ∧ v r S1 (fun y S2 => oIndex x y S2 P) X) X := id rfl
theorem ix_least {a b c : Int} {S : Sto} {P : PD} (h : ∀ f : Nat, f < 3 → P (.int (f : Int)) S) : oMin [.lst [.int a, .int b, .int c]] S (fun y S2 => oIndex (.lst [.int a, .int b, .int c]) y S2 P) := by
  refine .inl ⟨[a, b, c], rfl, by simp, fun m hm _ => ?_⟩
  have hm : m = a ∨ m = b ∨ m = c := by simpa using hm
  have ok3 : okD (.lst [.int a, .int b, .int c]) = true := ok_ints [a, b, c]
  by_cases h1 : a = m
  · exact ⟨_, 0, .int a, rfl, ok3, ok_int m, rfl, by rw [show toP (res S (.int m)) = .int m from rfl, eqv_int]; exact decide_eq_true h1, fun k z hk => absurd hk (Nat.not_lt_zero k), h 0 (by decide)⟩
  · by_cases h2 : b = m
    · refine ⟨_, 1, .int b, rfl, ok3, ok_int m, rfl, by rw [show toP (res S (.int m)) = .int m from rfl, eqv_int]; exact decide_eq_true h2, fun k z hk hz => ?_, h 1 (by decide)⟩
      have : k = 0 := by omega
      subst this
      cases hz
      rw [show toP (res S (.int m)) = .int m from rfl, show toP (.int a) = .int a from rfl, eqv_int]; exact decide_eq_false h1
    · have h3 : c = m := by rcases hm with e | e | e
                            · exact absurd e.symm h1
                            · exact absurd e.symm h2
                            · exact e.symm
      refine ⟨_, 2, .int c, rfl, ok3, ok_int m, rfl, by rw [show toP (res S (.int m)) = .int m from rfl, eqv_int]; exact decide_eq_true h3, fun k z hk hz => ?_, h 2 (by decide)⟩
      have : k = 0 ∨ k = 1 := by omega
      rcases this with rfl | rfl
      · cases hz
        rw [show toP (res S (.int m)) = .int m from rfl, show toP (.int a) = .int a from rfl, eqv_int]; exact decide_eq_false h1
      · cases hz
        rw [show toP (res S (.int m)) = .int m from rfl, show toP (.int b) = .int b from rfl, eqv_int]; exact decide_eq_false h2
theorem back_map {α : Type} (g : α → D) (xs : List α) : ∀ ds : List D, (∀ d ∈ ds, d ∈ xs.map g) → ∃ ys : List α, ds = ys.map g ∧ ∀ y ∈ ys, y ∈ xs
  | [], _ => ⟨[], rfl, fun y hy => by cases hy⟩
  | d :: ds, h => by
    obtain ⟨ys, e, hy⟩ := back_map g xs ds fun d' hd => h d' (List.mem_cons_of_mem _ hd)
    obtain ⟨x, hx, e2⟩ := List.mem_map.mp (h d List.mem_cons_self)
    exact ⟨x :: ys, by rw [e, ← e2]; rfl, fun y hm => by
      rcases List.mem_cons.mp hm with rfl | hm
      · exact hx
      · exact hy y hm⟩
theorem sort_TT (us : List TR) : ∃ vs : List TR, (us.map TT).mergeSort leD = vs.map TT ∧ vs.Perm us :=
  ⟨us.mergeSort fun a b => leD (TT a) (TT b), (List.map_mergeSort (r := fun a b => leD (TT a) (TT b)) (s := leD) (f := TT) fun _ _ _ _ => rfl).symm, List.mergeSort_perm _ _⟩
theorem RotL.snoc {ts us : List TR} {t u : TR} (h : RotL ts us) (r : rotT t u) : RotL (ts ++ [t]) (us ++ [u]) := by
  induction h with
  | nil => exact .cons r .nil
  | cons a _ ih => exact .cons a ih
theorem RotL.len {ts us : List TR} (h : RotL ts us) : ts.length = us.length := by
  induction h with
  | nil => rfl
  | cons _ _ ih => rw [List.length_cons, List.length_cons, ih]
theorem RotL.ok {sp : List PT} {ts us : List TR} (h : RotL ts us) (ho : ∀ t ∈ ts, triOk sp t) : ∀ u ∈ us, triOk sp u := by
  induction h with
  | nil => exact fun u hu => by cases hu
  | cons a _ ih =>
    intro u hu
    rcases List.mem_cons.mp hu with rfl | hu
    · exact rot_ok (ho _ List.mem_cons_self) a
    · exact ih (fun t ht => ho t (List.mem_cons_of_mem _ ht)) u hu
theorem RotL.alk {f : Nat → Int} {ts us : List TR} (h : RotL ts us) (ho : alk f us) : K.alk f ts := by
  induction h with
  | nil => exact fun u hu => by cases hu
  | cons a _ ih =>
    intro t ht
    rcases List.mem_cons.mp ht with rfl | ht
    · have q := ho _ List.mem_cons_self
      cases a with
      | zero => exact q
      | one => dsimp only at q; omega
      | two => dsimp only at q; omega
    · exact ih (fun t ht => ho t (List.mem_cons_of_mem _ ht)) t ht
theorem flat_rot {sp : List PT} {tr tr' : List TR} (F : Flat sp tr) (h : ∀ t ∈ tr, triOk sp t) (R : RotP tr tr') : Flat sp tr' := by
  obtain ⟨us, h1, h2⟩ := R
  refine flat_of F h (fun t ht => h1.ok h t (h2.mem_iff.mpr ht)) fun n p _ => ?_
  rw [← sI_perm h2, rot_chs h1]
theorem rot_mo {b n m : Nat} {sp : List PT} {tr tr' : List TR} (M : MO b n m sp tr) (R : RotP tr tr') : MO b n m sp tr' := by
  obtain ⟨us, h1, h2⟩ := R
  have e := h1.len.trans h2.length_eq
  refine ⟨fun v hv => h1.ok M.ok v (h2.mem_iff.mpr hv), M.bd, M.ls, by rw [← e]; exact M.lt, fun z => M.ne (List.length_eq_zero_iff.mp (by rw [e, z]; rfl)), fun f hf => M.cn f (h1.alk fun t ht => hf t (h2.mem_iff.mp ht)), flat_rot M.fl M.ok ⟨us, h1, h2⟩⟩
theorem made_loop {E : EndD} {Y : XS} {S : Sto} {l : Addr} {z0 z1 : D} {b : Int} {n : Nat} (hn : n ≤ 200) (tr : List TR) (nx : ∀ (us : List TR) z4 z6, RotL tr us → us.length = n → E.nx [some z0, some z1, some (.int b), some (.ref l), z4, none, z6, none, none] (sput S l (.lst (us.map TT)))) :
    ∀ (ts pre us : List TR) (z4 z6 : Option D), us.length + ts.length = n → pre ++ ts = tr → RotL pre us → loopD (gVar 4) w__law_made_5 E Y (ts.map TD) [some z0, some z1, some (.int b), some (.ref l), z4, none, z6, none, none] (sput S l (.lst (us.map TT)))
  | [], pre, us, z4, z6, e, ht, hu => nx us z4 z6 (by rw [List.append_nil] at ht; rw [← ht]; exact hu) (by simpa using e)
  | t :: ts, pre, us, z4, z6, e, ht, hu => by
    rw [List.length_cons] at e
    rw [List.map_cons, xloop]
    have hs : ∀ {es : List D}, (sput S l (.lst es)) l = some (.lst es) := sput_at
    simp only [g4, w__law_made_5, xseq, w__law_made_4, xset, xindex, xn, xcons, xnil, v4]
    refine ⟨⟨_, rfl⟩, ?_⟩
    show oMin [.lst [.int (t.1 : Int), .int (t.2.1 : Int), .int (t.2.2 : Int)]] _ (fun y S2 => oIndex (.lst [.int (t.1 : Int), .int (t.2.1 : Int), .int (t.2.2 : Int)]) y S2 _)
    refine ix_least fun f hf => ?_
    obtain ⟨u, hr, hc⟩ := rot_cut t f hf
    simp only [g6, w__law_made_3, xexpr, xapp, v3, isl hs, true_and, xn, xcons, xnil, x2, slF, slT, v4, v6]
    show oSlice (.lst [.int (t.1 : Int), .int (t.2.1 : Int), .int (t.2.2 : Int)]) (some (f : Int)) none _ _
    rw [oslL_from]
    show oSlice (.lst [.int (t.1 : Int), .int (t.2.1 : Int), .int (t.2.2 : Int)]) none (some (f : Int)) _ _
    rw [oslL_to, add_lst, hc]
    refine ⟨by rw [List.length_drop, List.length_take]; exact le_line (by simp only [List.length_cons, List.length_nil]; omega), ?_⟩
    rw [tup_lst, app_at hs]
    refine ⟨?_, ?_⟩
    · rw [List.length_map]; exact Nat.lt_of_lt_of_le (show us.length < 1000 by omega) (le_line (Nat.le_refl _))
    · rw [sput_sput]
      have em : us.map TT ++ [.tup [.int (u.1 : Int), .int (u.2.1 : Int), .int (u.2.2 : Int)]] = (us ++ [u]).map TT := by rw [List.map_append]; rfl
      rw [em]
      exact made_loop hn tr nx ts (pre ++ [t]) (us ++ [u]) _ _ (by rw [List.length_append, List.length_singleton]; omega) (by rw [List.append_assoc]; exact ht) (hu.snoc hr)
theorem does__law_made : Does c__law_made w__law_made N__law_made 3 := by
  rintro ds S P X ⟨sp, tr, b, B, n, m, rfl, ⟨hn, hm⟩, M, b0, b1, h⟩
  refine ⟨rfl, ?_⟩
  show w__law_made_9 _ _ [some (RS sp), some (RT tr), some (.int b), none, none, none, none, none, none] S
  have sl := M.ls
  have tl := M.lt
  simp only [w__law_made_9, xseq, w__law_made_8, xset, xnew, xnil]
  refine ⟨le_line (by simp), fun l hl => ?_⟩
  simp only [g3, w__law_made_7, xseq, w__law_made_6, xfor, xitems, v1]
  show loopD _ _ _ _ (tr.map TD) _ (sput S l (.lst (([] : List TR).map TT)))
  refine made_loop (n := tr.length) (by omega) tr ?_ tr [] [] _ _ (by simp) rfl .nil
  intro us z4 z6 hu lu
  simp only [w__law_made_2, xseq, w__law_made_1, xset]
  have b20 : Bd 4000 b := bd_s (by omega) (by decide)
  refine lcM_go DI (fun c => DP (pnt c b)) sp (fun Q hq => ?_) (le_line (by omega)) (fun c hc S1 R hR => ?_) ?_
  · simp only [xitems, v0]
    exact hq
  · have w78 : ∀ {a0 a1 a2 a3 a4 a5 a6 a7 a8 : Option D}, wipeD [a0, a1, a2, a3, a4, a5, a6, a7, a8] [7, 8] = [a0, a1, a2, a3, a4, a5, a6, none, none] := rfl
    simp only [w78]
    show gTupD 2 (gConsD (gVar 7) (gConsD (gVar 8) gNilD)) (.tup [.int c.1, .int c.2]) _ _ _ _
    rw [g2p]
    simp only [List.set_cons_succ, List.set_cons_zero, xtup, xcons, xnil, xcall, PL.v7, PL.v8, v2]
    exact k__law_low b20 (by omega) (k__law_low b20 (by omega) ⟨two_line, hR⟩)
  · have e1 : (sp.map fun c => DP (pnt c b)) = (ovP b sp).map DP := by unfold ovP; rw [List.map_map]; rfl
    rw [e1]
    obtain ⟨vs, e2, hv⟩ := sort_TT us
    simp only [PL.g5, w__law_made_0, xret, xtup, xcons, xnil, xn, PL.v5, tup_lst, v3]
    have ls : lstOf (sput S l (.lst (us.map TT))) (.ref l) = some (us.map TT) := by
      unfold lstOf
      simp only [sput_at]
    refine ⟨us.map TT, ls, .inr ⟨us.map fun t => [(t.1 : Int), (t.2.1 : Int), (t.2.2 : Int)], ?_, ?_⟩, ?_⟩
    · intro r hr
      obtain ⟨t, _, rfl⟩ := List.mem_map.mp hr
      simp
    · rw [List.map_map]; rfl
    · rw [e2]
      show oTuple [D.lst (vs.map TT)] _ _
      rw [tup_lst]
      refine ⟨two_line, sdel (sput S l (.lst (us.map TT))) l, sdel_sub _ _, ?_⟩
      rw [sdel_put hl]
      have R : RotP tr vs := ⟨us, hu, hv.symm⟩
      exact h vs (rot_mo M R) R
/-! plain laws of the lattices -/
theorem nl_prod {m n x y s t : Int} (hx : m ≤ x) (hy : m ≤ y) (h0 : 0 ≤ n) (h1 : n < m) (s0 : -n ≤ s) (s1 : s ≤ n) (t0 : -n ≤ t) (t1 : t ≤ n) : -(x * y) < s * t ∧ s * t < x * y := by
  have a1 : m * m ≤ x * y := Int.mul_le_mul hx hy (by omega) (by omega)
  have a2 : (n + 1) * (n + 1) ≤ m * m := Int.mul_le_mul (by omega) (by omega) (by omega) (by omega)
  have a3 : (s * t).natAbs ≤ n.natAbs * n.natAbs := sm_mul (by omega) (by omega)
  have a4 : ((n.natAbs * n.natAbs : Nat) : Int) = n * n := by
    rw [Int.natCast_mul, Int.natAbs_of_nonneg h0]
  have a5 : (n + 1) * (n + 1) = n * n + 2 * n + 1 := by grind
  generalize s * t = z at *
  generalize x * y = w at *
  generalize n * n = v at *
  omega
theorem cel_pos {A B C D' : PT} {x0 x1 y0 y1 e b : Int} (he : 0 ≤ e) (hb : 1 ≤ b) (h8 : 8 * e ≤ b) (hx : b ≤ x1 - x0) (hy : b ≤ y1 - y0) (nA : nrP e A (x0, y0)) (nB : nrP e B (x1, y0)) (nC : nrP e C (x1, y1)) (nD : nrP e D' (x0, y1)) :
    0 < trn A B C ∧ 0 < trn A C D' ∧ 0 < trn A B D' ∧ 0 < trn B C D' := by
  unfold nrP at nA nB nC nD
  dsimp only at nA nB nC nD
  have p1 := nl_prod (m := b - 2 * e) (n := 2 * e) (x := C.2 - B.2) (y := B.1 - A.1) (s := C.1 - B.1) (t := A.2 - B.2) (by omega) (by omega) (by omega) (by omega) (by omega) (by omega) (by omega) (by omega)
  have p2 := nl_prod (m := b - 2 * e) (n := 2 * e) (x := D'.2 - A.2) (y := C.1 - D'.1) (s := A.1 - D'.1) (t := C.2 - D'.2) (by omega) (by omega) (by omega) (by omega) (by omega) (by omega) (by omega) (by omega)
  have p3 := nl_prod (m := b - 2 * e) (n := 2 * e) (x := B.1 - A.1) (y := D'.2 - A.2) (s := B.2 - A.2) (t := D'.1 - A.1) (by omega) (by omega) (by omega) (by omega) (by omega) (by omega) (by omega) (by omega)
  have p4 := nl_prod (m := b - 2 * e) (n := 2 * e) (x := C.1 - D'.1) (y := C.2 - B.2) (s := D'.2 - C.2) (t := B.1 - C.1) (by omega) (by omega) (by omega) (by omega) (by omega) (by omega) (by omega) (by omega)
  have q1 : trn A B C = (C.1 - B.1) * (A.2 - B.2) + (C.2 - B.2) * (B.1 - A.1) := by unfold trn; grind
  have q2 : trn A C D' = (A.1 - D'.1) * (C.2 - D'.2) + (D'.2 - A.2) * (C.1 - D'.1) := by unfold trn; grind
  have q3 : trn A B D' = (B.1 - A.1) * (D'.2 - A.2) - (B.2 - A.2) * (D'.1 - A.1) := by unfold trn; grind
  have q4 : trn B C D' = (C.1 - D'.1) * (C.2 - B.2) - (D'.2 - C.2) * (B.1 - C.1) := by unfold trn; grind
  rw [q1, q2, q3, q4]
  refine ⟨?_, ?_, ?_, ?_⟩
  · have := p1.1; omega
  · have := p2.1; omega
  · have := p3.2; omega
  · have := p4.2; omega
theorem grP_at (xs : List Int) : ∀ (ys : List Int) (i j : Nat), i < ys.length → j < xs.length → spt (grP xs ys) (i * xs.length + j) = (xs.getD j 0, ys.getD i 0)
  | [], i, j, hi, _ => absurd hi (Nat.not_lt_zero _)
  | y :: ys, i, j, hi, hj => by
    have e : grP xs (y :: ys) = xs.map (fun x => (x, y)) ++ grP xs ys := by simp [grP]
    rw [e]
    cases i with
    | zero =>
      rw [Nat.zero_mul, Nat.zero_add, spt_app (by rw [List.length_map]; exact hj)]
      unfold spt
      rw [List.getD_eq_getElem?_getD, List.getElem?_map, getD_at (d := (0 : Int)) hj]
      rfl
    | succ i =>
      have := grP_at xs ys i j (by rw [List.length_cons] at hi; omega) hj
      rw [← show spt (grP xs ys) (i * xs.length + j) = (xs.getD j 0, (y :: ys).getD (i + 1) 0) from this]
      unfold spt
      rw [List.getD_eq_getElem?_getD, List.getD_eq_getElem?_getD, List.getElem?_append_right (by rw [List.length_map, Nat.succ_mul]; omega), List.length_map, show (i + 1) * xs.length + j - xs.length = i * xs.length + j by rw [Nat.succ_mul]; omega]
def scP (b : Int) (sp : List PT) : List PT := sp.map fun c => (b * c.1, b * c.2)
theorem scP_at {b : Int} {sp : List PT} {k : Nat} (h : k < sp.length) : spt (scP b sp) k = (b * (spt sp k).1, b * (spt sp k).2) := by
  unfold scP
  conv => lhs; unfold spt
  rw [List.getD_eq_getElem?_getD, List.getElem?_map, getD_at (d := ((0 : Int), (0 : Int))) h]
  rfl
/-! cells of a lattice -/
/-- all corners of a cell -/
def corn (w i j : Nat) (k : Nat) : Prop := k = i * (w + 1) + j ∨ k = i * (w + 1) + j + 1 ∨ k = i * (w + 1) + j + w + 2 ∨ k = i * (w + 1) + j + w + 1
theorem cel_corn {w i j : Nat} {t : TR} (h : celT w i j t) : corn w i j t.1 ∧ corn w i j t.2.1 ∧ corn w i j t.2.2 := by
  unfold corn
  rcases h with rfl | rfl | rfl | rfl <;> dsimp only <;> omega
structure GD (w h : Nat) (b e : Int) (xs ys : List Int) (sp : List PT) : Prop where
  at_ : ∀ i j, i < h + 1 → j < w + 1 → nrP e (spt sp (i * (w + 1) + j)) (b * xs.getD j 0, b * ys.getD i 0)
  sx : ∀ j, j < w → b ≤ b * xs.getD (j + 1) 0 - b * xs.getD j 0
  sy : ∀ i, i < h → b ≤ b * ys.getD (i + 1) 0 - b * ys.getD i 0
  he : 0 ≤ e
  hb : 1 ≤ b
  h8 : 8 * e ≤ b
section
variable {w h : Nat} {b e : Int} {xs ys : List Int} {sp : List PT}
/-- the four corners of a cell -/
theorem gd_cel (G : GD w h b e xs ys sp) {i j : Nat} (hi : i < h) (hj : j < w) :
    nrP e (spt sp (i * (w + 1) + j)) (b * xs.getD j 0, b * ys.getD i 0) ∧ nrP e (spt sp (i * (w + 1) + j + 1)) (b * xs.getD (j + 1) 0, b * ys.getD i 0) ∧ nrP e (spt sp (i * (w + 1) + j + w + 2)) (b * xs.getD (j + 1) 0, b * ys.getD (i + 1) 0) ∧ nrP e (spt sp (i * (w + 1) + j + w + 1)) (b * xs.getD j 0, b * ys.getD (i + 1) 0) := by
  refine ⟨G.at_ i j (by omega) (by omega), ?_, ?_, ?_⟩
  · have := G.at_ i (j + 1) (by omega) (by omega)
    rwa [show i * (w + 1) + (j + 1) = i * (w + 1) + j + 1 by omega] at this
  · have := G.at_ (i + 1) (j + 1) (by omega) (by omega)
    rwa [show (i + 1) * (w + 1) + (j + 1) = i * (w + 1) + j + w + 2 by rw [Nat.succ_mul]; omega] at this
  · have := G.at_ (i + 1) j (by omega) (by omega)
    rwa [show (i + 1) * (w + 1) + j = i * (w + 1) + j + w + 1 by rw [Nat.succ_mul]; omega] at this
theorem gd_pos (G : GD w h b e xs ys sp) {i j : Nat} (hi : i < h) (hj : j < w) :
    0 < trn (spt sp (i * (w + 1) + j)) (spt sp (i * (w + 1) + j + 1)) (spt sp (i * (w + 1) + j + w + 2)) ∧ 0 < trn (spt sp (i * (w + 1) + j)) (spt sp (i * (w + 1) + j + w + 2)) (spt sp (i * (w + 1) + j + w + 1)) ∧
    0 < trn (spt sp (i * (w + 1) + j)) (spt sp (i * (w + 1) + j + 1)) (spt sp (i * (w + 1) + j + w + 1)) ∧ 0 < trn (spt sp (i * (w + 1) + j + 1)) (spt sp (i * (w + 1) + j + w + 2)) (spt sp (i * (w + 1) + j + w + 1)) := by
  obtain ⟨c1, c2, c3, c4⟩ := gd_cel G hi hj
  exact cel_pos G.he G.hb G.h8 (G.sx j hj) (G.sy i hi) c1 c2 c3 c4
theorem gd_tri (G : GD w h b e xs ys sp) {i j : Nat} (hi : i < h) (hj : j < w) {t : TR} (ht : celT w i j t) : 0 < trn (spt sp t.1) (spt sp t.2.1) (spt sp t.2.2) := by
  obtain ⟨p1, p2, p3, p4⟩ := gd_pos G hi hj
  rcases ht with rfl | rfl | rfl | rfl
  · exact p1
  · exact p2
  · exact p3
  · exact p4
/-- by the corners of two cells -/
theorem sep_cel (G : GD w h b e xs ys sp) {i j i' j' : Nat} (hi : i < h) (hj : j < w) (hi' : i' < h) (hj' : j' < w) {t u : TR} (ht : celT w i j t) (hu : celT w i' j' u) {x y : PT} (ne : x ≠ y)
    (h1 : trn x y (spt sp (i * (w + 1) + j)) ≤ 0 ∧ trn x y (spt sp (i * (w + 1) + j + 1)) ≤ 0 ∧ trn x y (spt sp (i * (w + 1) + j + w + 2)) ≤ 0 ∧ trn x y (spt sp (i * (w + 1) + j + w + 1)) ≤ 0)
    (h2 : 0 ≤ trn x y (spt sp (i' * (w + 1) + j')) ∧ 0 ≤ trn x y (spt sp (i' * (w + 1) + j' + 1)) ∧ 0 ≤ trn x y (spt sp (i' * (w + 1) + j' + w + 2)) ∧ 0 ≤ trn x y (spt sp (i' * (w + 1) + j' + w + 1))) : Dis sp t u := by
  have a : ∀ k, corn w i j k → trn x y (spt sp k) ≤ 0 := fun k hk => by
    rcases hk with rfl | rfl | rfl | rfl
    · exact h1.1
    · exact h1.2.1
    · exact h1.2.2.1
    · exact h1.2.2.2
  have c : ∀ k, corn w i' j' k → 0 ≤ trn x y (spt sp k) := fun k hk => by
    rcases hk with rfl | rfl | rfl | rfl
    · exact h2.1
    · exact h2.2.1
    · exact h2.2.2.1
    · exact h2.2.2.2
  obtain ⟨t1, t2, t3⟩ := cel_corn ht
  obtain ⟨u1, u2, u3⟩ := cel_corn hu
  exact sep_line (gd_tri G hi hj ht) (gd_tri G hi' hj' hu) ne ⟨a _ t1, a _ t2, a _ t3⟩ ⟨c _ u1, c _ u2, c _ u3⟩
/-- ascending steps sum up -/
theorem gd_far {l : List Int} {n : Nat} (hb : 1 ≤ b) (s : ∀ j, j < n → b ≤ b * l.getD (j + 1) 0 - b * l.getD j 0) {i j : Nat} (hj : j ≤ n) (h : i < j) : b ≤ b * l.getD j 0 - b * l.getD i 0 := by
  induction j with
  | zero => omega
  | succ j ih =>
    have a := s j (by omega)
    by_cases c : i = j
    · rw [c]; exact a
    · have := ih (by omega) (by omega)
      omega
theorem trn_vert (g : Int) (v : PT) : trn (g, 1) (g, 0) v = v.1 - g := by unfold trn; dsimp only; grind
theorem trn_hor (g : Int) (v : PT) : trn (0, g) (1, g) v = v.2 - g := by unfold trn; dsimp only; grind
theorem trn_sum (c v : PT) : trn c (c.1 + 1, c.2 - 1) v = (v.1 - c.1) + (v.2 - c.2) := by unfold trn; dsimp only; grind
theorem trn_dif (c v : PT) : trn c (c.1 + 1, c.2 + 1) v = (v.2 - c.2) - (v.1 - c.1) := by unfold trn; dsimp only; grind
theorem dis_right2 (G : GD w h b e xs ys sp) {i j i' j' : Nat} (hi : i < h) (hj : j < w) (hi' : i' < h) (hj' : j' < w) {t u : TR} (ht : celT w i j t) (hu : celT w i' j' u) (c : j + 2 ≤ j') : Dis sp t u := by
  obtain ⟨a1, a2, a3, a4⟩ := gd_cel G hi hj
  obtain ⟨b1, b2, b3, b4⟩ := gd_cel G hi' hj'
  have s0 := G.sx j hj
  have s1 := gd_far (b := b) G.hb G.sx (show j' ≤ w by omega) (show j + 1 < j' by omega)
  have s2 := G.sx j' hj'
  have he := G.he
  have h8 := G.h8
  have hb := G.hb
  unfold nrP at a1 a2 a3 a4 b1 b2 b3 b4
  dsimp only at a1 a2 a3 a4 b1 b2 b3 b4
  generalize b * xs.getD j 0 = x0 at *
  generalize b * xs.getD (j + 1) 0 = x1 at *
  generalize b * xs.getD j' 0 = x2 at *
  generalize b * xs.getD (j' + 1) 0 = x3 at *
  refine sep_cel G hi hj hi' hj' ht hu (x := (x1 + e, 1)) (y := (x1 + e, 0)) (fun z => by have := congrArg Prod.snd z; dsimp only at this; omega) ⟨?_, ?_, ?_, ?_⟩ ⟨?_, ?_, ?_, ?_⟩ <;> rw [trn_vert] <;> omega
theorem dis_up2 (G : GD w h b e xs ys sp) {i j i' j' : Nat} (hi : i < h) (hj : j < w) (hi' : i' < h) (hj' : j' < w) {t u : TR} (ht : celT w i j t) (hu : celT w i' j' u) (c : i + 2 ≤ i') : Dis sp t u := by
  obtain ⟨a1, a2, a3, a4⟩ := gd_cel G hi hj
  obtain ⟨b1, b2, b3, b4⟩ := gd_cel G hi' hj'
  have s0 := G.sy i hi
  have s1 := gd_far (b := b) G.hb G.sy (show i' ≤ h by omega) (show i + 1 < i' by omega)
  have s2 := G.sy i' hi'
  have he := G.he
  have h8 := G.h8
  have hb := G.hb
  unfold nrP at a1 a2 a3 a4 b1 b2 b3 b4
  dsimp only at a1 a2 a3 a4 b1 b2 b3 b4
  generalize b * ys.getD i 0 = x0 at *
  generalize b * ys.getD (i + 1) 0 = x1 at *
  generalize b * ys.getD i' 0 = x2 at *
  generalize b * ys.getD (i' + 1) 0 = x3 at *
  refine sep_cel G hi hj hi' hj' ht hu (x := (0, x1 + e)) (y := (1, x1 + e)) (fun z => by have := congrArg Prod.fst z; dsimp only at this; omega) ⟨?_, ?_, ?_, ?_⟩ ⟨?_, ?_, ?_, ?_⟩ <;> rw [trn_hor] <;> omega
theorem dis_right (G : GD w h b e xs ys sp) {i j : Nat} (hi : i < h) (hj : j < w) (hj' : j + 1 < w) {t u : TR} (ht : celT w i j t) (hu : celT w i (j + 1) u) : Dis sp t u := by
  obtain ⟨p1, p2, p3, p4⟩ := gd_pos G hi hj
  obtain ⟨q1, q2, q3, q4⟩ := gd_pos G hi hj'
  have e1 : i * (w + 1) + (j + 1) = i * (w + 1) + j + 1 := by omega
  have e2 : i * (w + 1) + j + 1 + w + 1 = i * (w + 1) + j + w + 2 := by omega
  simp only [e1, e2] at q1 q2 q3 q4
  generalize hA : spt sp (i * (w + 1) + j) = A at *
  generalize hB : spt sp (i * (w + 1) + j + 1) = B at *
  generalize hC : spt sp (i * (w + 1) + j + w + 2) = C at *
  generalize hD : spt sp (i * (w + 1) + j + w + 1) = D' at *
  have r1 := trn_rot A B C
  have r2 := trn_rot B C D'
  have s1 := trn_swap B C A
  have s2 := trn_swap B C D'
  refine sep_cel G hi hj hi hj' ht hu (x := C) (y := B) (fun z => (pos_ne p1).2.1 z.symm) ⟨?_, ?_, ?_, ?_⟩ ⟨?_, ?_, ?_, ?_⟩
  · rw [hA]; omega
  · rw [hB, (trn_aa C B).2]; exact Int.le_refl _
  · rw [hC, (trn_aa C B).1]; exact Int.le_refl _
  · rw [hD]; omega
  · rw [e1, hB, (trn_aa C B).2]; exact Int.le_refl _
  · rw [e1]
    have := trn_rot C B (spt sp (i * (w + 1) + j + 1 + 1))
    have := trn_rot B (spt sp (i * (w + 1) + j + 1 + 1)) C
    omega
  · rw [e1]
    have := trn_rot C B (spt sp (i * (w + 1) + j + 1 + w + 2))
    have := trn_rot B (spt sp (i * (w + 1) + j + 1 + w + 2)) C
    omega
  · rw [e1, e2, hC, (trn_aa C B).1]; exact Int.le_refl _
theorem dis_up (G : GD w h b e xs ys sp) {i j : Nat} (hi : i < h) (hj : j < w) (hi' : i + 1 < h) {t u : TR} (ht : celT w i j t) (hu : celT w (i + 1) j u) : Dis sp t u := by
  obtain ⟨p1, p2, p3, p4⟩ := gd_pos G hi hj
  obtain ⟨q1, q2, q3, q4⟩ := gd_pos G hi' hj
  have e1 : (i + 1) * (w + 1) + j = i * (w + 1) + j + w + 1 := by rw [Nat.succ_mul]; omega
  have e2 : i * (w + 1) + j + w + 1 + 1 = i * (w + 1) + j + w + 2 := by omega
  simp only [e1, e2] at q1 q2 q3 q4
  generalize hA : spt sp (i * (w + 1) + j) = A at *
  generalize hB : spt sp (i * (w + 1) + j + 1) = B at *
  generalize hC : spt sp (i * (w + 1) + j + w + 2) = C at *
  generalize hD : spt sp (i * (w + 1) + j + w + 1) = D' at *
  have r1 := trn_rot A C D'
  have r2 := trn_rot B C D'
  have s1 := trn_swap C D' A
  have s2 := trn_swap C D' B
  refine sep_cel G hi hj hi' hj ht hu (x := D') (y := C) (fun z => (pos_ne p2).2.1 z.symm) ⟨?_, ?_, ?_, ?_⟩ ⟨?_, ?_, ?_, ?_⟩
  · rw [hA]; omega
  · rw [hB]; omega
  · rw [hC, (trn_aa D' C).2]; exact Int.le_refl _
  · rw [hD, (trn_aa D' C).1]; exact Int.le_refl _
  · rw [e1, hD, (trn_aa D' C).1]; exact Int.le_refl _
  · rw [e1, e2, hC, (trn_aa D' C).2]; exact Int.le_refl _
  · rw [e1]; omega
  · rw [e1]; omega
theorem dis_upright (G : GD w h b e xs ys sp) {i j : Nat} (hi : i < h) (hj : j < w) (hi' : i + 1 < h) (hj' : j + 1 < w) {t u : TR} (ht : celT w i j t) (hu : celT w (i + 1) (j + 1) u) : Dis sp t u := by
  obtain ⟨a1, a2, a3, a4⟩ := gd_cel G hi hj
  obtain ⟨b1, b2, b3, b4⟩ := gd_cel G hi' hj'
  have sx0 := G.sx j hj
  have sx1 := G.sx (j + 1) hj'
  have sy0 := G.sy i hi
  have sy1 := G.sy (i + 1) hi'
  have he := G.he
  have h8 := G.h8
  have hb := G.hb
  have ec : (i + 1) * (w + 1) + (j + 1) = i * (w + 1) + j + w + 2 := by rw [Nat.succ_mul]; omega
  unfold nrP at a1 a2 a3 a4 b1 b2 b3 b4
  dsimp only at a1 a2 a3 a4 b1 b2 b3 b4
  generalize b * xs.getD j 0 = x0 at *
  generalize b * xs.getD (j + 1) 0 = x1 at *
  generalize b * xs.getD (j + 1 + 1) 0 = x2 at *
  generalize b * ys.getD i 0 = y0 at *
  generalize b * ys.getD (i + 1) 0 = y1 at *
  generalize b * ys.getD (i + 1 + 1) 0 = y2 at *
  refine sep_cel G hi hj hi' hj' ht hu (x := spt sp (i * (w + 1) + j + w + 2)) (y := ((spt sp (i * (w + 1) + j + w + 2)).1 + 1, (spt sp (i * (w + 1) + j + w + 2)).2 - 1)) (fun z => by have := congrArg Prod.fst z; dsimp only at this; omega) ⟨?_, ?_, ?_, ?_⟩ ⟨?_, ?_, ?_, ?_⟩
  · rw [trn_sum]; omega
  · rw [trn_sum]; omega
  · rw [trn_sum]; omega
  · rw [trn_sum]; omega
  · rw [trn_sum, ec]; omega
  · rw [trn_sum]; omega
  · rw [trn_sum]; omega
  · rw [trn_sum]; omega
theorem dis_upleft (G : GD w h b e xs ys sp) {i j : Nat} (hi : i < h) (hj : j < w) (hi' : i + 1 < h) (hj' : j + 1 < w) {t u : TR} (ht : celT w i (j + 1) t) (hu : celT w (i + 1) j u) : Dis sp t u := by
  obtain ⟨a1, a2, a3, a4⟩ := gd_cel G hi hj'
  obtain ⟨b1, b2, b3, b4⟩ := gd_cel G hi' hj
  have sx0 := G.sx j hj
  have sx1 := G.sx (j + 1) hj'
  have sy0 := G.sy i hi
  have sy1 := G.sy (i + 1) hi'
  have he := G.he
  have h8 := G.h8
  have hb := G.hb
  have ec : (i + 1) * (w + 1) + j + 1 = i * (w + 1) + (j + 1) + w + 1 := by rw [Nat.succ_mul]; omega
  unfold nrP at a1 a2 a3 a4 b1 b2 b3 b4
  dsimp only at a1 a2 a3 a4 b1 b2 b3 b4
  generalize b * xs.getD j 0 = x0 at *
  generalize b * xs.getD (j + 1) 0 = x1 at *
  generalize b * xs.getD (j + 1 + 1) 0 = x2 at *
  generalize b * ys.getD i 0 = y0 at *
  generalize b * ys.getD (i + 1) 0 = y1 at *
  generalize b * ys.getD (i + 1 + 1) 0 = y2 at *
  refine sep_cel G hi hj' hi' hj ht hu (x := spt sp (i * (w + 1) + (j + 1) + w + 1)) (y := ((spt sp (i * (w + 1) + (j + 1) + w + 1)).1 + 1, (spt sp (i * (w + 1) + (j + 1) + w + 1)).2 + 1)) (fun z => by have := congrArg Prod.fst z; dsimp only at this; omega) ⟨?_, ?_, ?_, ?_⟩ ⟨?_, ?_, ?_, ?_⟩
  · rw [trn_dif]; omega
  · rw [trn_dif]; omega
  · rw [trn_dif]; omega
  · rw [trn_dif]; omega
  · rw [trn_dif]; omega
  · rw [trn_dif, ec]; omega
  · rw [trn_dif]; omega
  · rw [trn_dif]; omega
/-- two cells, not the same -/
theorem dis_cel (G : GD w h b e xs ys sp) {i j i' j' : Nat} (hi : i < h) (hj : j < w) (hi' : i' < h) (hj' : j' < w) {t u : TR} (ht : celT w i j t) (hu : celT w i' j' u) (ne : ¬ (i = i' ∧ j = j')) : Dis sp t u := by
  by_cases c1 : j + 2 ≤ j'
  · exact dis_right2 G hi hj hi' hj' ht hu c1
  by_cases c2 : j' + 2 ≤ j
  · exact (dis_right2 G hi' hj' hi hj hu ht c2).symm
  by_cases c3 : i + 2 ≤ i'
  · exact dis_up2 G hi hj hi' hj' ht hu c3
  by_cases c4 : i' + 2 ≤ i
  · exact (dis_up2 G hi' hj' hi hj hu ht c4).symm
  have a : j' = j ∨ j' = j + 1 ∨ j = j' + 1 := by omega
  have c : i' = i ∨ i' = i + 1 ∨ i = i' + 1 := by omega
  rcases a with rfl | rfl | rfl <;> rcases c with rfl | rfl | rfl
  · exact absurd ⟨rfl, rfl⟩ ne
  · exact dis_up G hi hj hi' ht hu
  · exact (dis_up G hi' hj hi hu ht).symm
  · exact dis_right G hi hj hj' ht hu
  · exact dis_upright G hi hj hi' hj' ht hu
  · exact (dis_upleft G hi' hj hi hj' hu ht).symm
  · exact (dis_right G hi hj' hj hu ht).symm
  · exact dis_upleft G hi hj' hi' hj ht hu
  · exact (dis_upright G hi' hj' hi hj hu ht).symm
theorem dis_pair (G : GD w h b e xs ys sp) {i j : Nat} (hi : i < h) (hj : j < w) {t u : TR} (p : pairC w i j t u) : Dis sp t u := by
  obtain ⟨p1, p2, p3, p4⟩ := gd_pos G hi hj
  rcases p with ⟨rfl, rfl⟩ | ⟨rfl, rfl⟩
  · generalize hA : spt sp (i * (w + 1) + j) = A at *
    generalize hB : spt sp (i * (w + 1) + j + 1) = B at *
    generalize hC : spt sp (i * (w + 1) + j + w + 2) = C at *
    generalize hD : spt sp (i * (w + 1) + j + w + 1) = D' at *
    have s1 := trn_swap C A B
    have s2 := trn_rot A B C
    have s3 := trn_rot B C A
    refine sep_line (a := A) (b := C) (by dsimp only; rw [hA, hB, hC]; exact p1) (by dsimp only; rw [hA, hC, hD]; exact p2) (fun z => (pos_ne p1).2.2 z.symm) ⟨?_, ?_, ?_⟩ ⟨?_, ?_, ?_⟩ <;> dsimp only
    · rw [hA, (trn_aa A C).1]; exact Int.le_refl _
    · rw [hB]; omega
    · rw [hC, (trn_aa A C).2]; exact Int.le_refl _
    · rw [hA, (trn_aa A C).1]; exact Int.le_refl _
    · rw [hC, (trn_aa A C).2]; exact Int.le_refl _
    · rw [hD]; exact Int.le_of_lt p2
  · generalize hA : spt sp (i * (w + 1) + j) = A at *
    generalize hB : spt sp (i * (w + 1) + j + 1) = B at *
    generalize hC : spt sp (i * (w + 1) + j + w + 2) = C at *
    generalize hD : spt sp (i * (w + 1) + j + w + 1) = D' at *
    have s1 := trn_swap B D' A
    have s2 := trn_rot A B D'
    have s3 := trn_rot B C D'
    have s4 := trn_rot C D' B
    refine sep_line (a := D') (b := B) (by dsimp only; rw [hA, hB, hD]; exact p3) (by dsimp only; rw [hB, hC, hD]; exact p4) (fun z => (pos_ne p3).2.1 z.symm) ⟨?_, ?_, ?_⟩ ⟨?_, ?_, ?_⟩ <;> dsimp only
    · rw [hA]; omega
    · rw [hB, (trn_aa D' B).2]; exact Int.le_refl _
    · rw [hD, (trn_aa D' B).1]; exact Int.le_refl _
    · rw [hB, (trn_aa D' B).2]; exact Int.le_refl _
    · rw [hC]; omega
    · rw [hD, (trn_aa D' B).1]; exact Int.le_refl _
end
/-- all lattices that are drawn -/
def gapOk (w h : Nat) (g : Int) : Prop := (g = -1 ∧ 1 ≤ w ∧ w ≤ 3 ∧ 1 ≤ h ∧ h ≤ 2) ∨ (g = 4 ∧ w = 3 ∧ h = 3)
theorem cov_all {w h : Nat} {g : Int} {tr : List TR} (V : covL w h g tr) (hg : gapOk w h g) : Cn ((h + 1) * (w + 1)) tr := by
  intro f hf
  have V := V f hf
  have one : ∀ i, i < (h + 1) * (w + 1) → f i = f 0 := by
    unfold covC at V
    rcases hg with ⟨rfl, w0, w1, h0, h1⟩ | ⟨rfl, rfl, rfl⟩
    · have hw : w = 1 ∨ w = 2 ∨ w = 3 := by omega
      have hh : h = 1 ∨ h = 2 := by omega
      rcases hw with rfl | rfl | rfl <;> rcases hh with rfl | rfl
      · have a := V 0 (by decide) (by decide)
        simp at a
        intro i hi
        match i, hi with
        | 0, _ | 1, _ | 2, _ | 3, _ => omega
      · have a := V 0 (by decide) (by decide)
        have b := V 1 (by decide) (by decide)
        simp at a b
        intro i hi
        match i, hi with
        | 0, _ | 1, _ | 2, _ | 3, _ | 4, _ | 5, _ => omega
      · have a := V 0 (by decide) (by decide)
        have b := V 1 (by decide) (by decide)
        simp at a b
        intro i hi
        match i, hi with
        | 0, _ | 1, _ | 2, _ | 3, _ | 4, _ | 5, _ => omega
      · have a := V 0 (by decide) (by decide)
        have b := V 1 (by decide) (by decide)
        have c := V 2 (by decide) (by decide)
        have d := V 3 (by decide) (by decide)
        simp at a b c d
        intro i hi
        match i, hi with
        | 0, _ | 1, _ | 2, _ | 3, _ | 4, _ | 5, _ | 6, _ | 7, _ | 8, _ => omega
      · have a := V 0 (by decide) (by decide)
        have b := V 1 (by decide) (by decide)
        have c := V 2 (by decide) (by decide)
        simp at a b c
        intro i hi
        match i, hi with
        | 0, _ | 1, _ | 2, _ | 3, _ | 4, _ | 5, _ | 6, _ | 7, _ => omega
      · have a := V 0 (by decide) (by decide)
        have b := V 1 (by decide) (by decide)
        have c := V 2 (by decide) (by decide)
        have d := V 3 (by decide) (by decide)
        have e := V 4 (by decide) (by decide)
        have k := V 5 (by decide) (by decide)
        simp at a b c d e k
        intro i hi
        match i, hi with
        | 0, _ | 1, _ | 2, _ | 3, _ | 4, _ | 5, _ | 6, _ | 7, _ | 8, _ | 9, _ | 10, _ | 11, _ => omega
    · have a := V 0 (by decide) (by decide)
      have b := V 1 (by decide) (by decide)
      have c := V 2 (by decide) (by decide)
      have d := V 3 (by decide) (by decide)
      have e := V 5 (by decide) (by decide)
      have k := V 6 (by decide) (by decide)
      have l := V 7 (by decide) (by decide)
      have m := V 8 (by decide) (by decide)
      simp at a b c d e k l m
      intro i hi
      have hi : i < 16 := hi
      have hc : i = 0 ∨ i = 1 ∨ i = 2 ∨ i = 3 ∨ i = 4 ∨ i = 5 ∨ i = 6 ∨ i = 7 ∨ i = 8 ∨ i = 9 ∨ i = 10 ∨ i = 11 ∨ i = 12 ∨ i = 13 ∨ i = 14 ∨ i = 15 := by omega
      rcases hc with rfl | rfl | rfl | rfl | rfl | rfl | rfl | rfl | rfl | rfl | rfl | rfl | rfl | rfl | rfl | rfl <;> omega
  intro i j hi hj
  rw [one i hi, one j hj]
theorem grid_mo {w h : Nat} {b e : Int} {xs ys : List Int} {sp : List PT} {tr : List TR} (hw : w ≤ 3) (hh : h ≤ 3) (hb : 1 ≤ b ∧ b ≤ 30) (he : 0 ≤ e) (h8 : 8 * e ≤ b) (X : Asc w xs) (Y : Asc h ys) (C : celL w h 18 tr) (ne : tr ≠ []) {g : Int} (V : covL w h g tr) (hg : gapOk w h g) (Q : tr.Pairwise (CelR w h))
    (N : nrL e sp (scP b (grP xs ys))) : MO 400 16 18 sp tr := by
  obtain ⟨N1, N2⟩ := N
  have lx := X.len
  have ly := Y.len
  have lg : (grP xs ys).length = (h + 1) * (w + 1) := by rw [grP_len, lx, ly]
  have l16 : (h + 1) * (w + 1) ≤ 4 * 4 := Nat.mul_le_mul (by omega) (by omega)
  have ls : (scP b (grP xs ys)).length = (h + 1) * (w + 1) := by unfold scP; rw [List.length_map, lg]
  have at_ : ∀ i j, i < h + 1 → j < w + 1 → i * (w + 1) + j < (h + 1) * (w + 1) ∧ nrP e (spt sp (i * (w + 1) + j)) (b * xs.getD j 0, b * ys.getD i 0) := fun i j hi hj => by
    have k1 : i * (w + 1) + j < (h + 1) * (w + 1) := by
      have : (i + 1) * (w + 1) ≤ (h + 1) * (w + 1) := Nat.mul_le_mul_right _ (by omega)
      rw [Nat.succ_mul] at this
      omega
    refine ⟨k1, ?_⟩
    have := N2 (i * (w + 1) + j) (by rw [ls]; exact k1)
    rw [scP_at (by rw [lg]; exact k1)] at this
    have g := grP_at xs ys i j (by omega) (by omega)
    rw [lx] at g
    rw [g] at this
    exact this
  have step : ∀ {l : List Int} {n k : Nat}, Asc n l → k < n → b ≤ b * l.getD (k + 1) 0 - b * l.getD k 0 := fun {l n k} A hk => by
    have u := A.up k hk
    rw [← Int.mul_sub]
    have : b * 1 ≤ b * (l.getD (k + 1) 0 - l.getD k 0) := Int.mul_le_mul_of_nonneg_left (by omega) (by omega)
    omega
  have GG : GD w h b e xs ys sp := ⟨fun i j hi hj => (at_ i j hi hj).2, fun j hj => step X hj, fun i hi => step Y hi, he, hb.1, h8⟩
  refine ⟨fun t ht => ?_, fun c hc => ?_, by rw [N1, ls]; omega, C.1, ne, by rw [N1, ls]; exact cov_all V hg, flat_pw (Q.imp fun {x y} ⟨i, j, i', j', ⟨a1, a2, a3, a4⟩, c1, c2, d⟩ => d.elim (dis_cel GG a1 a2 a3 a4 c1 c2) (dis_pair GG a1 a2))⟩
  · obtain ⟨i, j, hi, hj, ct⟩ := C.2 t ht
    obtain ⟨a1, a2⟩ := at_ i j (by omega) (by omega)
    obtain ⟨b1, b2⟩ := at_ i (j + 1) (by omega) (by omega)
    obtain ⟨c1, c2⟩ := at_ (i + 1) (j + 1) (by omega) (by omega)
    obtain ⟨d1, d2⟩ := at_ (i + 1) j (by omega) (by omega)
    rw [show (i + 1) * (w + 1) + (j + 1) = i * (w + 1) + j + w + 2 by rw [Nat.succ_mul]; omega] at c1 c2
    rw [show (i + 1) * (w + 1) + j = i * (w + 1) + j + w + 1 by rw [Nat.succ_mul]; omega] at d1 d2
    rw [show i * (w + 1) + (j + 1) = i * (w + 1) + j + 1 by omega] at b1 b2
    obtain ⟨p1, p2, p3, p4⟩ := cel_pos he hb.1 h8 (step X hj) (step Y hi) a2 b2 c2 d2
    have lsp : sp.length = (h + 1) * (w + 1) := N1.trans ls
    unfold triOk triIn
    rw [lsp]
    rcases ct with rfl | rfl | rfl | rfl
    · exact ⟨⟨a1, b1, c1⟩, p1⟩
    · exact ⟨⟨a1, c1, d1⟩, p2⟩
    · exact ⟨⟨a1, b1, d1⟩, p3⟩
    · exact ⟨⟨b1, c1, d1⟩, p4⟩
  · obtain ⟨k, hk, rfl⟩ := List.getElem_of_mem hc
    have e1 : sp[k] = spt sp k := by
      unfold spt
      rw [List.getD_eq_getElem?_getD, List.getElem?_eq_getElem hk]; rfl
    have hk2 : k < (h + 1) * (w + 1) := by rw [N1, ls] at hk; exact hk
    have n := N2 k (by rw [ls]; exact hk2)
    rw [scP_at (by rw [lg]; exact hk2)] at n
    rw [e1]
    have hm : spt (grP xs ys) k ∈ grP xs ys := getD_mem (by rw [lg]; exact hk2)
    have bx : 0 ≤ (spt (grP xs ys) k).1 ∧ (spt (grP xs ys) k).1 ≤ 12 ∧ 0 ≤ (spt (grP xs ys) k).2 ∧ (spt (grP xs ys) k).2 ≤ 12 := by
      generalize spt (grP xs ys) k = z at *
      unfold grP at hm
      obtain ⟨y, hy, hz⟩ := List.mem_flatMap.mp hm
      obtain ⟨x, hx, rfl⟩ := List.mem_map.mp hz
      have := X.bd x hx
      have := Y.bd y hy
      dsimp only
      omega
    have s1 : (b * (spt (grP xs ys) k).1).natAbs ≤ 30 * 12 := sm_mul (by omega) (by omega)
    have s2 : (b * (spt (grP xs ys) k).2).natAbs ≤ 30 * 12 := sm_mul (by omega) (by omega)
    unfold nrP at n
    dsimp only at n
    omega
/-! slanted -/
def slP (s : Int) (sp : List PT) : List PT := sp.map fun c => (c.1 + s * c.2, c.2)
theorem slP_at {s : Int} {sp : List PT} {k : Nat} (h : k < sp.length) : spt (slP s sp) k = ((spt sp k).1 + s * (spt sp k).2, (spt sp k).2) := by
  unfold slP
  conv => lhs; unfold spt
  rw [List.getD_eq_getElem?_getD, List.getElem?_map, getD_at (d := ((0 : Int), (0 : Int))) h]
  rfl
/-- slanted, nothing overlaps either -/
theorem slant_big (s n : Int) (a : PT) : big n (a.1 + s * a.2, a.2) = ((big n a).1 + s * (big n a).2, (big n a).2) := by unfold big; dsimp only; rw [show n * (a.1 + s * a.2) = n * a.1 + s * (n * a.2) by grind]
theorem trn_slant (s : Int) (a b p : PT) : trn (a.1 + s * a.2, a.2) (b.1 + s * b.2, b.2) p = trn a b (p.1 - s * p.2, p.2) := by unfold trn; dsimp only; grind
theorem flat_slant {s : Int} {sp : List PT} {tr : List TR} (h : ∀ t ∈ tr, triIn sp.length t) (F : Flat sp tr) : Flat (slP s sp) tr := fun n p G => by
  have ll : (slP s sp).length = sp.length := by unfold slP; rw [List.length_map]
  have tq : ∀ {i j : Nat}, i < sp.length → j < sp.length → trn (big n (spt (slP s sp) i)) (big n (spt (slP s sp) j)) p = trn (big n (spt sp i)) (big n (spt sp j)) (p.1 - s * p.2, p.2) := fun {i j} hi hj => by
    rw [slP_at hi, slP_at hj, slant_big, slant_big, trn_slant]
  have G' : Gen sp n (p.1 - s * p.2, p.2) := ⟨G.1, fun i j hi hj ne => by
    rw [← tq hi hj]
    refine G.2 i j (by rw [ll]; exact hi) (by rw [ll]; exact hj) fun z => ne ?_
    rw [slP_at hi, slP_at hj] at z
    have h2 := congrArg Prod.snd z
    have h1 := congrArg Prod.fst z
    dsimp only at h1 h2
    rw [h2] at h1
    exact Prod.ext (by omega) h2⟩
  refine Nat.le_trans (List.countP_mono_left fun t ht z => ?_) (F n _ G')
  obtain ⟨h1, h2, h3⟩ := h t ht
  have z := of_decide_eq_true z
  refine decide_eq_true ?_
  unfold inTr inT at z ⊢
  rw [tq h1 h2, tq h2 h3, tq h3 h1] at z
  exact z
theorem slant_mo {s : Int} {n m : Nat} {sp : List PT} {tr : List TR} (hs : -2 ≤ s ∧ s ≤ 2) (M : MO 400 n m sp tr) : MO 2000 n m (slP s sp) tr := by
  have ll : (slP s sp).length = sp.length := by unfold slP; rw [List.length_map]
  refine ⟨fun t ht => ?_, fun c hc => ?_, by rw [ll]; exact M.ls, M.lt, M.ne, by rw [ll]; exact M.cn, flat_slant (fun t ht => (M.ok t ht).1) M.fl⟩
  · obtain ⟨⟨h1, h2, h3⟩, h4⟩ := M.ok t ht
    unfold triOk triIn
    rw [ll, slP_at h1, slP_at h2, slP_at h3]
    refine ⟨⟨h1, h2, h3⟩, ?_⟩
    have e : ∀ a b c : PT, trn (a.1 + s * a.2, a.2) (b.1 + s * b.2, b.2) (c.1 + s * c.2, c.2) = trn a b c := fun a b c => by unfold trn; grind
    rw [e]; exact h4
  · unfold slP at hc
    obtain ⟨x, hx, rfl⟩ := List.mem_map.mp hc
    obtain ⟨b1, b2⟩ := M.bd x hx
    have : (s * x.2).natAbs ≤ 2 * 400 := sm_mul (by omega) b2
    dsimp only
    omega
/-! the drawn mesh -/
theorem k_flip {b n m : Nat} {sp : List PT} {tr : List TR} {t : TR} {S : Sto} {P : PD} {X : PX} (hs : b ≤ 2000 ∧ n ≤ 40 ∧ m ≤ 100) (M : MO b n m sp tr) (ht : t ∈ tr) (k : ∀ tr', MO b n m sp tr' → P (RT tr') S) : c__law_flipped [RS sp, RT tr, TD t] S P X := ⟨b, n, m, sp, tr, t, rfl, hs, M, ht, k⟩
section
variable {E : EndD} {Y : XS} {p q : Addr} {S0 : Sto} {b : Int} {z4 : Option D}
abbrev hEnv (p : Addr) (b : Int) (sp : List PT) (tr : List TR) (z1 z3 z4 z6 z10 z11 : Option D) : PL.Env := [some (.ref p), z1, some (RS sp), z3, z4, some (.int b), z6, some (RT tr), none, none, z10, z11]
theorem flip_loop {z1 z4 z10 z11 : Option D} {sp : List PT} {N : Nat} (hN : N ≤ 3) (nx : ∀ tr S' z3 z6, MO 2000 16 18 sp tr → Deal S' p q → Fr p q S0 S' → E.nx (hEnv p b sp tr z1 z3 z4 z6 z10 z11) S') :
    ∀ (k i : Nat) (lo : Int) (tr : List TR) (S : Sto) (z3 z6 : Option D), i + k = N → MO 2000 16 18 sp tr → Deal S p q → Fr p q S0 S → loopD (gVar 3) w__law_mesh_3 E Y (intsD lo k) (hEnv p b sp tr z1 z3 z4 z6 z10 z11) S
  | 0, i, lo, tr, S, z3, z6, e, M, hd, fr => nx tr S _ _ ⟨M.ok, M.bd, M.ls, by have := M.lt; omega, M.ne, M.cn, M.fl⟩ hd fr
  | k + 1, i, lo, tr, S, z3, z6, e, M, hd, fr => by
    have tl := M.lt
    rw [ints_cons]
    simp only [xloop, g3, w__law_mesh_3, xseq, w__law_mesh_2, xset, xcall, xcons, xnil, v0, PL.v7]
    refine k_pick hd (fun z => M.ne (List.map_eq_nil_iff.mp z)) (by rw [List.length_map]; omega) fun d hdm S1 hd1 f1 => ?_
    obtain ⟨t, ht, rfl⟩ := List.mem_map.mp hdm
    simp only [g6, w__law_mesh_1, xset, xcall, xcons, xnil, v2, PL.v7, v6]
    refine k_flip ⟨by decide, by decide, by omega⟩ M ht fun tr' M' => ?_
    simp only [PL.g7]
    exact flip_loop hN nx k (i + 1) _ tr' S1 _ _ (by omega) M' hd1 (fr.trans f1)
theorem map_go {G : Nat} {f : PT → PT} {wi : WI} {we : WE} {vs : List Nat} {env : PL.Env} {S : Sto} {P : PD} {X : PX} (sp : List PT) (hl : sp.length ≤ 1000) (hi : ∀ Q : List D → Sto → Prop, Q (sp.map DI) S → wi env S Q X)
    (hs : ∀ c ∈ sp, ∀ (S1 : Sto) (R : D → Sto → Prop), R (DI (f c)) S1 → we (((wipeD env vs).set 8 (some (.int c.1))).set 9 (some (.int c.2))) S1 R (fun _ _ => False)) (h : P (RS (sp.map f)) S) :
    wLc wi (gTupD 2 (gConsD (gVar 8) (gConsD (gVar 9) gNilD))) tYesD we vs env S P X := by
  refine lcM_go DI (fun c => DI (f c)) sp hi (le_line hl) (fun c hc S1 R hR => ?_) ?_
  · show gTupD 2 (gConsD (gVar 8) (gConsD (gVar 9) gNilD)) (.tup [.int c.1, .int c.2]) _ _ _ _
    rw [g2p]
    exact hs c hc S1 R hR
  · have e : sp.map (fun c => DI (f c)) = (sp.map f).map DI := by rw [List.map_map]; rfl
    rw [e]; exact h
theorem w89 {a0 a1 a2 a3 a4 a5 a6 a7 a8 a9 a10 a11 : Option D} : wipeD [a0, a1, a2, a3, a4, a5, a6, a7, a8, a9, a10, a11] [8, 9] = [a0, a1, a2, a3, a4, a5, a6, a7, none, none, a10, a11] := id rfl
theorem mesh_tail {S : Sto} {z4 z10 z11 : Option D} {sp : List PT} {tr : List TR} (hb : 1 ≤ b ∧ b ≤ 64) (M : MO 400 16 18 sp tr) (hd : Deal S p q) (fr : Fr p q S0 S)
    (h : ∀ sp tr S', MO 2000 16 18 sp tr → Deal S' p q → Fr p q S0 S' → E.rt (.tup [.int b, RS sp, RT tr]) S') :
    w__law_mesh_9 E Y (hEnv p b sp tr none none z4 none z10 z11) S := by
  have sl := M.ls
  simp only [w__law_mesh_9, xseq, w__law_mesh_8, xset, x2, xcall, xcons, xnil, v0, xc]
  refine k_any hd (by decide) (by decide) fun r S1 r0 r1 hd1 f1 => ?_
  simp only [osubI, g1, w__law_mesh_7, xseq, w__law_mesh_6, xset]
  refine map_go (G := 0) (f := fun c => (c.1 + (r - 2) * c.2, c.2)) sp (by omega) (fun Q hq => ?_) (fun c hc S2 R hR => ?_) ?_
  · simp only [xitems, v2]
    exact hq
  · obtain ⟨b1, b2⟩ := M.bd c hc
    simp only [w89, List.set_cons_succ, List.set_cons_zero, xtup, xcons, xnil, x2, v1, PL.v8, PL.v9, oaddI, omulI]
    exact ⟨(bd_s (k := 20) (by omega) (by decide)).cmul (bd_s (k := 20) (by omega) (by decide)) (by decide), two_line, hR⟩
  · have M2 := slant_mo (s := r - 2) (by omega) M
    rw [show (sp.map fun c => (c.1 + (r - 2) * c.2, c.2)) = slP (r - 2) sp from rfl]
    generalize slP (r - 2) sp = sp at *
    simp only [g2, w__law_mesh_5, xseq, w__law_mesh_4, xfor, xrngA, xcall, xcons, xnil, v0, xc]
    refine k_any hd1 (by decide) (by decide) fun k S2 k0 k1 hd2 f2 => ⟨by omega, ?_⟩
    refine flip_loop (q := q) (S0 := S0) (N := k.toNat) (by omega) ?_ k.toNat 0 _ tr S2 _ _ (by omega) M2 hd2 ((fr.trans f1).trans f2)
    intro tr' S' z3 z6 M' hd' fr'
    simp only [w__law_mesh_0, xret, xtup, xcons, xnil, PL.v5, v2, PL.v7]
    exact ⟨tri3, h sp tr' S' M' hd' fr'⟩
end
theorem k_fan {p q : Addr} {b : Int} {S : Sto} {P : PD} {X : PX} (hd : Deal S p q) (hb : 1 ≤ b ∧ b ≤ 30) (k : ∀ sp tr S', MO 400 9 8 sp tr → Deal S' p q → Fr p q S S' → P (.tup [RS sp, RT tr]) S') : c__law_fan [.ref p, .int b] S P X := ⟨p, q, b, rfl, hd, hb, k⟩
theorem k_parted {p q : Addr} {b : Int} {S : Sto} {P : PD} {X : PX} (hd : Deal S p q) (hb : b = 1 ∨ b = 4 ∨ b = 16 ∨ b = 64) (k : ∀ sp tr S', MO 400 6 7 sp tr → Deal S' p q → Fr p q S S' → P (.tup [RS sp, RT tr]) S') : c__law_parted [.ref p, .int b] S P X := ⟨p, q, b, rfl, hd, hb, k⟩
theorem k_grid {p q : Addr} {w h : Nat} {g : Int} {S : Sto} {P : PD} {X : PX} (hd : Deal S p q) (hb : 1 ≤ w ∧ w ≤ 3 ∧ 1 ≤ h ∧ h ≤ 3 ∧ g ≠ 0)
    (k : ∀ xs ys tr S', Asc w xs → Asc h ys → celL w h 18 tr → tr ≠ [] → covL w h g tr → tr.Pairwise (CelR w h) → Deal S' p q → Fr p q S S' → P (.tup [RS (grP xs ys), RT tr]) S') : c__law_grid [.ref p, .int (w : Int), .int (h : Int), .int g] S P X := ⟨p, q, w, h, g, rfl, hd, hb, k⟩
theorem k_moved {p q : Addr} {sp : List PT} {b : Int} {w h : Nat} {S : Sto} {P : PD} {X : PX} (hd : Deal S p q) (hb : 1 ≤ w ∧ w ≤ 3 ∧ 1 ≤ h ∧ h ≤ 3 ∧ 1 ≤ b ∧ b ≤ 64) (hl : sp.length = (w + 1) * (h + 1))
    (k : ∀ sp' S', nrL (b / 8) sp' sp → Deal S' p q → Fr p q S S' → P (RS sp') S') : c__law_moved [.ref p, .int b, RS sp, .int (w : Int), .int (h : Int)] S P X := ⟨p, q, sp, b, w, h, rfl, hd, hb, hl, k⟩
theorem MO.up {b n m n' m' : Nat} {sp : List PT} {tr : List TR} (M : MO b n m sp tr) (h1 : n ≤ n') (h2 : m ≤ m') : MO b n' m' sp tr := ⟨M.ok, M.bd, Nat.le_trans M.ls h1, Nat.le_trans M.lt h2, M.ne, M.cn, M.fl⟩
theorem does__law_mesh : Does c__law_mesh w__law_mesh N__law_mesh 1 := by
  rintro ds S P X ⟨p, q, rfl, hd, h⟩
  refine ⟨rfl, ?_⟩
  show w__law_mesh_27 _ _ [some (.ref p), none, none, none, none, none, none, none, none, none, none, none] S
  simp only [w__law_mesh_27, xseq, w__law_mesh_26, xset, xtup, xlst, xcons, xnil, xcall, v0, xc]
  refine k_any hd (by decide) (by decide) fun f S1 f0 f4 hd1 f1 => ⟨le_line (by simp), k_pick hd1 (by simp) (by simp) fun d hdm S2 hd2 f2 => ?_⟩
  have hbd : ∃ b : Int, d = .int b ∧ 1 ≤ b ∧ b ≤ 30 := by
    simp only [List.mem_cons, List.not_mem_nil, or_false] at hdm
    rcases hdm with rfl | rfl | rfl | rfl | rfl <;> exact ⟨_, rfl, by decide, by decide⟩
  obtain ⟨b, rfl, hb⟩ := hbd
  have f12 := f1.trans f2
  refine ⟨two_line, ?_⟩
  rw [g2p]
  simp only [List.set_cons_succ, List.set_cons_zero, w__law_mesh_25, xseq, w__law_mesh_24, xsif, xbl, x2, v4, xc, oeqI]
  have tail := fun (b : Int) (hb : 1 ≤ b ∧ b ≤ 64) (sp : List PT) (tr : List TR) (S : Sto) (z10 z11 : Option D) (M : MO 400 16 18 sp tr) (hd : Deal S p q) (fr : Fr p q _ S) => mesh_tail (E := { nx := fun _ S' => shrP P .non S', rt := shrP P }) (Y := fun x _ S' => shrX X x S') (z4 := some (.int f)) (z10 := z10) (z11 := z11) hb M hd fr fun sp tr S' M' hd' fr' => ⟨S', Sub.refl _, h b sp tr S' hb.1 hb.2 M' hd' fr'⟩
  have bb : Bd 20 b := bd_s (by omega) (by decide)
  by_cases c0 : f = 0
  · simp only [decide_eq_true c0, if_true, w__law_mesh_10, xset, xcall, xcons, xnil, v0, PL.v5]
    refine k_fan hd2 hb fun sp tr S3 M hd3 f3 => ?_
    rw [g2p]
    simp only [List.set_cons_succ, List.set_cons_zero]
    exact tail b (by omega) sp tr S3 _ _ (M.up (by decide) (by decide)) hd3 (f12.trans f3)
  simp only [decide_eq_false c0, Bool.false_eq_true, if_false, w__law_mesh_23, xsif, xandB, xbl, x2, v4, xc, oeqI]
  have scb : ∀ {xs ys : List Int} {w h : Nat}, w ≤ 3 → h ≤ 3 → Asc w xs → Asc h ys → (grP xs ys).length = (w + 1) * (h + 1) ∧ (grP xs ys).length ≤ 16 ∧ ∀ c ∈ grP xs ys, Bd 20 c.1 ∧ Bd 20 c.2 := fun {xs ys w h} hw hh A B => by
    have l1 : (grP xs ys).length = (w + 1) * (h + 1) := by rw [grP_len, A.len, B.len, Nat.mul_comm]
    have l16 : (w + 1) * (h + 1) ≤ 4 * 4 := Nat.mul_le_mul (by omega) (by omega)
    refine ⟨l1, by omega, fun c hc => ?_⟩
    unfold grP at hc
    obtain ⟨y, hy, hz⟩ := List.mem_flatMap.mp hc
    obtain ⟨x, hx, rfl⟩ := List.mem_map.mp hz
    have := A.bd x hx
    have := B.bd y hy
    exact ⟨bd_s (by dsimp only; omega) (by decide), bd_s (by dsimp only; omega) (by decide)⟩
  have moved_go : ∀ (S2 : Sto), Deal S2 p q → Fr p q S S2 → f = 1 → w__law_mesh_18 { nx := fun e s => w__law_mesh_9 { nx := fun _ S' => shrP P .non S', rt := shrP P } (fun x _ S' => shrX X x S') e s, rt := shrP P } (fun x _ S' => shrX X x S') [some (.ref p), none, none, none, some (.int f), some (.int b), none, none, none, none, none, none] S2 := fun S2 hd2 f12 hf => by
    simp only [w__law_mesh_18, xseq, w__law_mesh_17, xpar2, x2, xcall, xcons, xnil, v0, xc]
    refine k_any hd2 (by decide) (by decide) fun w S3 w0 w1 hd3 f3 => ?_
    simp only [oaddI]
    refine k_any hd3 (by decide) (by decide) fun g S4 g0 g1 hd4 f4 => ?_
    simp only [oaddI, List.set_cons_succ, List.set_cons_zero]
    obtain ⟨w, rfl⟩ := Int.eq_ofNat_of_zero_le w0
    obtain ⟨g, rfl⟩ := Int.eq_ofNat_of_zero_le g0
    rw [show (1 : Int) + (w : Int) = ((w + 1 : Nat) : Int) by omega, show (1 : Int) + (g : Int) = ((g + 1 : Nat) : Int) by omega]
    simp only [w__law_mesh_16, xseq, w__law_mesh_15, xset, x1, xcall, xcons, xnil, v0, v10, v11, xc, onegI]
    refine k_grid hd4 ⟨by omega, by omega, by omega, by omega, by decide⟩ fun xs ys tr S5 A B C ne V Q' hd5 f5 => ?_
    rw [g2p]
    obtain ⟨l1, l2, sb⟩ := scb (w := w + 1) (h := g + 1) (by omega) (by omega) A B
    simp only [List.set_cons_succ, List.set_cons_zero, w__law_mesh_14, xset, xcall, xcons, xnil, v0, PL.v5]
    refine map_go (G := 0) (f := fun c => (b * c.1, b * c.2)) (grP xs ys) (by omega) (fun Q hq => ?_) (fun c hc S2 R hR => ?_) ?_
    · simp only [xitems, v2]
      exact hq
    · simp only [w89, List.set_cons_succ, List.set_cons_zero, xtup, xcons, xnil, x2, PL.v5, PL.v8, PL.v9, omulI]
      exact ⟨bb.cmul (sb c hc).1 (by decide), bb.cmul (sb c hc).2 (by decide), two_line, hR⟩
    · rw [show ((grP xs ys).map fun c => (b * c.1, b * c.2)) = scP b (grP xs ys) from rfl]
      simp only [v10, v11]
      refine k_moved hd5 ⟨by omega, by omega, by omega, by omega, by omega, by omega⟩ (by unfold scP; rw [List.length_map]; exact l1) fun sp' S6 N hd6 f6 => ?_
      simp only [g2]
      exact tail b (by omega) sp' tr S6 _ _ (grid_mo (by omega) (by omega) hb (by omega) (by omega) A B C ne V (.inl ⟨rfl, by omega, by omega, by omega, by omega⟩) Q' N) hd6 ((((f12.trans f3).trans f4).trans f5).trans f6)
  by_cases c1 : f = 1
  · simp only [decide_eq_true c1, if_true, xcall, xcons, xnil, v0, xc]
    refine k_any hd2 (by decide) (by decide) fun r S3 r0 r1 hd3 f3 => ?_
    simp only [oeqI]
    by_cases hr : r = 0
    · simp only [decide_eq_true hr, if_true, w__law_mesh_13, xseq, w__law_mesh_12, xset, xcall, xcons, xnil, v0, xc]
      refine k_grid (w := 3) (h := 3) hd3 ⟨by decide, by decide, by decide, by decide, by decide⟩ fun xs ys tr S4 A B C ne V Q' hd4 f4 => ?_
      rw [g2p]
      obtain ⟨l1, l2, sb⟩ := scb (w := 3) (h := 3) (by omega) (by omega) A B
      simp only [List.set_cons_succ, List.set_cons_zero, w__law_mesh_11, xset]
      refine map_go (G := 0) (f := fun c => (b * c.1, b * c.2)) (grP xs ys) (by omega) (fun Q hq => ?_) (fun c hc S2 R hR => ?_) ?_
      · simp only [xitems, v2]
        exact hq
      · simp only [w89, List.set_cons_succ, List.set_cons_zero, xtup, xcons, xnil, x2, PL.v5, PL.v8, PL.v9, omulI]
        exact ⟨bb.cmul (sb c hc).1 (by decide), bb.cmul (sb c hc).2 (by decide), two_line, hR⟩
      · rw [show ((grP xs ys).map fun c => (b * c.1, b * c.2)) = scP b (grP xs ys) from rfl]
        simp only [g2]
        have N : nrL 0 (scP b (grP xs ys)) (scP b (grP xs ys)) := ⟨rfl, fun k _ => by unfold nrP; omega⟩
        exact tail b (by omega) _ tr S4 _ _ (grid_mo (w := 3) (h := 3) (by omega) (by omega) hb (by decide) (by omega) A B C ne V (.inr ⟨rfl, rfl, rfl⟩) Q' N) hd4 ((f12.trans f3).trans f4)
    · simp only [decide_eq_false hr, Bool.false_eq_true, if_false, w__law_mesh_22, xsif, xbl, x2, v4, xc, oeqI, decide_eq_true c1, if_true]
      exact moved_go S3 hd3 (f12.trans f3) c1
  · simp only [decide_eq_false c1, Bool.false_eq_true, if_false, w__law_mesh_22, xsif, xbl, x2, v4, xc, oeqI, w__law_mesh_21, xseq, w__law_mesh_20, xset, xcall, xlst, xcons, xnil, v0]
    refine ⟨le_line (by simp), k_pick hd2 (by simp) (by simp) fun d hdm S3 hd3 f3 => ?_⟩
    have hbd : ∃ b : Int, d = .int b ∧ (b = 1 ∨ b = 4 ∨ b = 16 ∨ b = 64) := by
      simp only [List.mem_cons, List.not_mem_nil, or_false] at hdm
      rcases hdm with rfl | rfl | rfl | rfl <;> exact ⟨_, rfl, by decide⟩
    obtain ⟨b, rfl, hb⟩ := hbd
    simp only [PL.g5, w__law_mesh_19, xset, xcall, xcons, xnil, v0, PL.v5]
    refine k_parted hd3 hb fun sp tr S4 M hd4 f4 => ?_
    rw [g2p]
    simp only [List.set_cons_succ, List.set_cons_zero]
    exact tail b (by omega) sp tr S4 _ _ (M.up (by decide) (by decide)) hd4 ((f12.trans f3).trans f4)
theorem lit01 : D.tup [.int 0, .int 1] = DQ 0 := rfl
theorem bd_tr {a b c : PT} {B : Nat} (hB : B ≤ 2000) (ha : a.1.natAbs ≤ B ∧ a.2.natAbs ≤ B) (hb : b.1.natAbs ≤ B ∧ b.2.natAbs ≤ B) (hc : c.1.natAbs ≤ B ∧ c.2.natAbs ≤ B) : Bd 41 (trn a b c) :=
  ((bd_s (k := 20) (n := b.1 - a.1) (by omega) (by decide)).mul (bd_s (k := 20) (n := c.2 - a.2) (by omega) (by decide))).sub ((bd_s (k := 20) (n := b.2 - a.2) (by omega) (by decide)).mul (bd_s (k := 20) (n := c.1 - a.1) (by omega) (by decide)))
/-! plain laws of energies -/
theorem trn_lcr (a b c : PT) : lcr a b c = trn a b c := by unfold lcr trn; grind
theorem num_den (q : Rat) (m : Int) (hm : (m : Rat) ≠ 0) : Rat.divInt q.num ((q.den : Int) * m) = q / (m : Rat) := by
  have h := Rat.num_divInt_den q
  rw [div_k] at h
  have nz : ((q.den : Int) : Rat) ≠ 0 := cast_ne (den_ne q)
  rw [div_k, Rat.intCast_mul]
  conv => rhs; rw [← h]
  generalize ((q.den : Int) : Rat) = d at *
  generalize (q.num : Rat) = n at *
  generalize (m : Rat) = k at *
  grind
theorem cast_trn (a b c : PT) : ((trn a b c : Int) : Rat) = ((b.1 : Rat) - a.1) * ((c.2 : Rat) - a.2) - ((b.2 : Rat) - a.2) * ((c.1 : Rat) - a.1) := by
  unfold trn
  simp only [Rat.intCast_sub, Rat.intCast_mul]
theorem en_field {b L T N1 N2 A R U : Rat} (hb : b ≠ 0) (hL : L ≠ 0) (hT : T ≠ 0) (hA : A = T / (b * b)) (hR : R = N1 / (L * b) / A) (hU : U = N2 / (L * b) / A) :
    (N1 * N1 + N2 * N2) / (2 * T) / (2 * L * L) = 1 / 4 * A * (R * R + U * U) := by
  subst hA
  have e1 : R = N1 * b / (L * T) := by rw [hR]; grind
  have e2 : U = N2 * b / (L * T) := by rw [hU]; grind
  rw [e1, e2]
  grind
theorem en_law {a b c : PT} {u v w B L : Int} (hB : 0 < B) (hL : 0 < L) (hT : 0 < trn a b c) :
    Rat.divInt (eE a b c u v w) (2 * trn a b c) / ((2 * L * L : Int) : Rat) = Rat.divInt 1 4 * dar (pnt a B) (pnt b B) (pnt c B) * (slR (pnt a B) (pnt b B) (pnt c B) (Rat.divInt u L) (Rat.divInt v L) (Rat.divInt w L) * slR (pnt a B) (pnt b B) (pnt c B) (Rat.divInt u L) (Rat.divInt v L) (Rat.divInt w L) + slU (pnt a B) (pnt b B) (pnt c B) (Rat.divInt u L) (Rat.divInt v L) (Rat.divInt w L) * slU (pnt a B) (pnt b B) (pnt c B) (Rat.divInt u L) (Rat.divInt v L) (Rat.divInt w L)) := by
  have nb := k_ne hB
  have nl := k_ne hL
  have nt := k_ne hT
  have hA : dar (pnt a B) (pnt b B) (pnt c B) = (trn a b c : Rat) / ((B : Rat) * B) := by
    rw [dar_pnt a b c B hB, div_k, trn_lcr, Rat.intCast_mul]
  have e1 : (eE a b c u v w : Rat) = (eR a b c u v w : Rat) * eR a b c u v w + (eU a b c u v w : Rat) * eU a b c u v w := by
    unfold eE
    simp only [Rat.intCast_add, Rat.intCast_mul]
  have fR : (eR a b c u v w : Rat) / ((L : Rat) * B) = (Rat.divInt v L - Rat.divInt u L) * ((pnt c B).2 - (pnt a B).2) - (Rat.divInt w L - Rat.divInt u L) * ((pnt b B).2 - (pnt a B).2) := by
    unfold eR
    simp only [div_k, pnt, Rat.intCast_sub, Rat.intCast_mul]
    generalize (B : Rat) = B at *
    generalize (L : Rat) = L at *
    clear hA e1
    grind
  have fU : (eU a b c u v w : Rat) / ((L : Rat) * B) = (Rat.divInt w L - Rat.divInt u L) * ((pnt b B).1 - (pnt a B).1) - (Rat.divInt v L - Rat.divInt u L) * ((pnt c B).1 - (pnt a B).1) := by
    unfold eU
    simp only [div_k, pnt, Rat.intCast_sub, Rat.intCast_mul]
    generalize (B : Rat) = B at *
    generalize (L : Rat) = L at *
    clear hA e1
    grind
  have r1 : slR (pnt a B) (pnt b B) (pnt c B) (Rat.divInt u L) (Rat.divInt v L) (Rat.divInt w L) = (eR a b c u v w : Rat) / ((L : Rat) * B) / dar (pnt a B) (pnt b B) (pnt c B) := by rw [fR]; rfl
  have u1 : slU (pnt a B) (pnt b B) (pnt c B) (Rat.divInt u L) (Rat.divInt v L) (Rat.divInt w L) = (eU a b c u v w : Rat) / ((L : Rat) * B) / dar (pnt a B) (pnt b B) (pnt c B) := by rw [fU]; rfl
  have key := en_field nb nl nt hA r1 u1
  have q4 : Rat.divInt 1 4 = 1 / 4 := by rw [div_k]; rfl
  rw [q4, ← key, div_k, e1, Rat.intCast_mul, Rat.intCast_mul, Rat.intCast_mul]
  rfl
theorem dar_nz {a b c : PT} {B : Int} (hB : 0 < B) (hT : 0 < trn a b c) : dar (pnt a B) (pnt b B) (pnt c B) ≠ 0 := by
  rw [dar_pnt a b c B hB, div_k, trn_lcr]
  have n1 := k_ne hT
  have n2 : ((B * B : Int) : Rat) ≠ 0 := k_ne (Int.mul_pos hB hB)
  generalize ((trn a b c : Int) : Rat) = x at *
  generalize ((B * B : Int) : Rat) = y at *
  grind
/-! sums over a common bottom -/
section
variable {α β : Type}
theorem sQ_app (f : α → Rat) (ys : List α) : ∀ xs : List α, sQ f (xs ++ ys) = sQ f xs + sQ f ys
  | [] => by simp only [List.nil_append, sQ, Rat.zero_add]
  | x :: xs => by simp only [List.cons_append, sQ, sQ_app f ys xs, Rat.add_assoc]
theorem sQ_one (f : α → Rat) (x : α) : sQ f [x] = f x := by simp only [sQ, Rat.add_zero]
theorem sQ_map (f : β → Rat) (g : α → β) : ∀ xs : List α, sQ f (xs.map g) = sQ (fun x => f (g x)) xs
  | [] => rfl
  | x :: xs => by simp only [List.map_cons, sQ, sQ_map f g xs]
theorem sQ_congr {f g : α → Rat} : ∀ {xs : List α}, (∀ x ∈ xs, f x = g x) → sQ f xs = sQ g xs
  | [], _ => rfl
  | x :: xs, h => by simp only [sQ, h x List.mem_cons_self, sQ_congr fun y hy => h y (List.mem_cons_of_mem _ hy)]
theorem sQ_mul (c : Rat) (f : α → Rat) : ∀ xs : List α, sQ (fun x => c * f x) xs = c * sQ f xs
  | [] => by simp only [sQ, Rat.mul_zero]
  | x :: xs => by simp only [sQ, sQ_mul c f xs, Rat.mul_add]
theorem sQ_div (c : Rat) (f : α → Rat) : ∀ xs : List α, sQ (fun x => f x / c) xs = sQ f xs / c
  | [] => by simp only [sQ]; grind
  | x :: xs => by simp only [sQ, sQ_div c f xs]; grind
theorem sQ_perm {f : α → Rat} {xs ys : List α} (h : xs.Perm ys) : sQ f xs = sQ f ys := by
  induction h with
  | nil => rfl
  | cons x _ ih => simp only [sQ, ih]
  | swap x y l => simp only [sQ]; grind
  | trans _ _ ih1 ih2 => exact ih1.trans ih2
end
theorem Ov.zero (D : Int) (k : Nat) : Ov D k 0 := ⟨0, by rw [Rat.zero_divInt], Nat.zero_le _⟩
theorem Ov.mono {D : Int} {k l : Nat} {q : Rat} (h : Ov D k q) (hl : k ≤ l) : Ov D l q := let ⟨t, e, b⟩ := h; ⟨t, e, Nat.le_trans b hl⟩
theorem Ov.add {D : Int} {k l : Nat} {p q : Rat} (h : Ov D k p) (g : Ov D l q) : Ov D (k + l) (p + q) := by
  obtain ⟨t, rfl, ht⟩ := h
  obtain ⟨u, rfl, hu⟩ := g
  refine ⟨t + u, ?_, by omega⟩
  rw [div_k, div_k, div_k, Rat.intCast_add, Rat.div_def, Rat.div_def, Rat.div_def, Rat.add_mul]
theorem Ov.neg {D : Int} {k : Nat} {p : Rat} (h : Ov D k p) : Ov D k (-p) := by
  obtain ⟨t, rfl, ht⟩ := h
  exact ⟨-t, Rat.neg_divInt _ _, by omega⟩
theorem Ov.sub {D : Int} {k l : Nat} {p q : Rat} (h : Ov D k p) (g : Ov D l q) : Ov D (k + l) (p - q) := by
  rw [Rat.sub_eq_add_neg]; exact h.add g.neg
theorem Ov.mul {D E : Int} {k l : Nat} {p q : Rat} (h : Ov D k p) (g : Ov E l q) : Ov (D * E) (k * l) (p * q) := by
  obtain ⟨t, rfl, ht⟩ := h
  obtain ⟨u, rfl, hu⟩ := g
  exact ⟨t * u, Rat.divInt_mul_divInt _ _, by rw [Int.natAbs_mul]; exact Nat.mul_le_mul ht hu⟩
theorem Ov.up {D E : Int} {k l : Nat} {q : Rat} (h : Ov D k q) (nz : E ≠ 0) (hl : k * E.natAbs ≤ l) : Ov (D * E) l q := by
  obtain ⟨t, rfl, ht⟩ := h
  refine ⟨t * E, ?_, Nat.le_trans (by rw [Int.natAbs_mul]; exact Nat.mul_le_mul_right _ ht) hl⟩
  exact (Rat.divInt_mul_right nz).symm
theorem Ov.sz {D : Int} {n k : Nat} {q : Rat} (h : Ov D k q) (nz : D ≠ 0) (bD : Bd n D) (hk : k < 2 ^ n) : Sz n q := by
  obtain ⟨t, rfl, ht⟩ := h
  exact Sz.divInt (show t.natAbs < 2 ^ n by omega) bD nz
theorem Ov.half {D : Int} {k : Nat} {q : Rat} (h : Ov D k q) : Ov (2 * D) k (q / 2) := by
  obtain ⟨t, rfl, ht⟩ := h
  refine ⟨t, ?_, ht⟩
  rw [div_k, div_k, Rat.intCast_mul]
  show _ = (t : Rat) / (2 * (D : Rat))
  rw [Rat.div_def, Rat.div_def, Rat.div_def, Rat.inv_mul_rev, Rat.mul_assoc]
theorem sQ_ov {α : Type} {D : Int} {k : Nat} {f : α → Rat} : ∀ {xs : List α}, (∀ x ∈ xs, Ov D k (f x)) → Ov D (xs.length * k) (sQ f xs)
  | [], _ => Ov.zero _ _
  | x :: xs, h => by
    have := (h x List.mem_cons_self).add (sQ_ov fun y hy => h y (List.mem_cons_of_mem _ hy))
    rw [List.length_cons, Nat.succ_mul, Nat.add_comm]
    exact this
/-! a dict of pairs of numbers -/
abbrev ED := List ((Nat × Nat) × Rat)
def keyL (k : Nat × Nat) : List Int := [(k.1 : Int), (k.2 : Int)]
def dicE (es : ED) : List (List Int × D) := es.map fun e => (keyL e.1, DQ e.2)
theorem keyL_inj {a b : Nat × Nat} : keyL a = keyL b ↔ a = b := by
  unfold keyL
  refine ⟨fun h => ?_, fun h => by rw [h]⟩
  injection h with h1 h2
  injection h2 with h2 _
  exact Prod.ext (by omega) (by omega)
def getE : ED → Nat × Nat → Option Rat
  | [], _ => none
  | e :: es, k => if e.1 = k then some e.2 else getE es k
def putE : ED → Nat × Nat → Rat → ED
  | [], k, q => [(k, q)]
  | e :: es, k, q => if e.1 = k then (k, q) :: es else e :: putE es k q
theorem getK_E (k : Nat × Nat) : ∀ es : ED, getK (dicE es) (keyL k) = (getE es k).map DQ
  | [] => rfl
  | e :: es => by
    show getK ((keyL e.1, DQ e.2) :: dicE es) (keyL k) = _
    unfold getE
    by_cases h : e.1 = k
    · rw [getK_pos (by rw [h]), if_pos h]; rfl
    · rw [getK_neg (fun z => h (keyL_inj.mp z)), if_neg h, getK_E k es]
theorem getE_none {k : Nat × Nat} : ∀ {es : ED}, getE es k = none → k ∉ es.map (·.1)
  | [], _ => by simp
  | e :: es, h => by
    unfold getE at h
    split at h
    · cases h
    · rename_i c
      rw [List.map_cons, List.mem_cons]
      rintro (z | z)
      · exact c z.symm
      · exact getE_none h z
theorem getE_some {k : Nat × Nat} {q : Rat} : ∀ {es : ED}, getE es k = some q → (k, q) ∈ es
  | [], h => by cases h
  | e :: es, h => by
    unfold getE at h
    split at h
    · rename_i c
      cases h
      rw [← c]; exact List.mem_cons_self
    · exact List.mem_cons_of_mem _ (getE_some h)
theorem getE_of {e : (Nat × Nat) × Rat} : ∀ {es : ED}, (es.map (·.1)).Nodup → e ∈ es → getE es e.1 = some e.2
  | [], _, h => by cases h
  | x :: es, nd, h => by
    rw [List.map_cons, List.nodup_cons] at nd
    unfold getE
    rcases List.mem_cons.mp h with rfl | h
    · rw [if_pos rfl]
    · have : x.1 ≠ e.1 := fun z => nd.1 (z ▸ List.mem_map_of_mem h)
      rw [if_neg this]
      exact getE_of nd.2 h
theorem map_off {k : Nat × Nat} {d : D} : ∀ {es : ED}, k ∉ es.map (·.1) → (dicE es).map (fun p => if p.1 = keyL k then (p.1, d) else p) = dicE es
  | [], _ => rfl
  | e :: es, h => by
    rw [List.map_cons, List.mem_cons] at h
    show (if keyL e.1 = keyL k then (keyL e.1, d) else (keyL e.1, DQ e.2)) :: (dicE es).map _ = (keyL e.1, DQ e.2) :: dicE es
    rw [if_neg (fun z => h (.inl (keyL_inj.mp z).symm)), map_off fun z => h (.inr z)]
theorem putD_E (k : Nat × Nat) (q : Rat) : ∀ es : ED, (es.map (·.1)).Nodup → putD (dicE es) (keyL k) (DQ q) = dicE (putE es k q)
  | [], _ => rfl
  | e :: es, nd => by
    rw [List.map_cons, List.nodup_cons] at nd
    have ih := putD_E k q es nd.2
    unfold putD at ih ⊢
    show (if (getK ((keyL e.1, DQ e.2) :: dicE es) (keyL k)).isSome = true then (if keyL e.1 = keyL k then (keyL e.1, DQ q) else (keyL e.1, DQ e.2)) :: (dicE es).map _ else (keyL e.1, DQ e.2) :: (dicE es ++ _)) = _
    unfold putE
    by_cases h : e.1 = k
    · rw [getK_pos (by rw [h]), if_pos h, if_pos (by rfl), if_pos (by rw [h]), map_off (by rw [← h]; exact nd.1), h]; rfl
    · have hk : ¬ keyL e.1 = keyL k := fun z => h (keyL_inj.mp z)
      rw [getK_neg hk, if_neg h, if_neg hk]
      show _ = (keyL e.1, DQ e.2) :: dicE (putE es k q)
      rw [← ih]
      split <;> rfl
theorem putE_keys (k : Nat × Nat) (q : Rat) : ∀ es : ED, (∀ x ∈ (putE es k q).map (·.1), x = k ∨ x ∈ es.map (·.1))
  | [] => by simp [putE]
  | e :: es => by
    unfold putE
    split
    · rename_i c
      intro x hx
      rw [List.map_cons, List.mem_cons] at hx ⊢
      rcases hx with rfl | hx
      · exact .inl rfl
      · exact .inr (.inr hx)
    · intro x hx
      rw [List.map_cons, List.mem_cons] at hx ⊢
      rcases hx with rfl | hx
      · exact .inr (.inl rfl)
      · rcases putE_keys k q es x hx with a | a
        · exact .inl a
        · exact .inr (.inr a)
theorem putE_nodup (k : Nat × Nat) (q : Rat) : ∀ es : ED, (es.map (·.1)).Nodup → ((putE es k q).map (·.1)).Nodup
  | [], _ => by simp [putE]
  | e :: es, nd => by
    have nd' := nd
    rw [List.map_cons, List.nodup_cons] at nd
    unfold putE
    split
    · rename_i c
      rw [List.map_cons, List.nodup_cons]
      exact ⟨by rw [← c]; exact nd.1, nd.2⟩
    · rename_i c
      rw [List.map_cons, List.nodup_cons]
      refine ⟨fun z => ?_, putE_nodup k q es nd.2⟩
      rcases putE_keys k q es _ z with a | a
      · exact c a
      · exact nd.1 a
theorem putE_mem {k : Nat × Nat} {q : Rat} {e : (Nat × Nat) × Rat} : ∀ {es : ED}, e ∈ putE es k q → e = (k, q) ∨ e ∈ es
  | [], h => by simp [putE] at h; exact .inl h
  | x :: es, h => by
    unfold putE at h
    split at h
    · rcases List.mem_cons.mp h with rfl | h
      · exact .inl rfl
      · exact .inr (List.mem_cons_of_mem _ h)
    · rcases List.mem_cons.mp h with rfl | h
      · exact .inr List.mem_cons_self
      · rcases putE_mem h with a | a
        · exact .inl a
        · exact .inr (List.mem_cons_of_mem _ a)
theorem putE_len (k : Nat × Nat) (q : Rat) : ∀ es : ED, (putE es k q).length ≤ es.length + 1
  | [] => Nat.le_refl _
  | e :: es => by
    unfold putE
    split
    · rw [List.length_cons, List.length_cons]; omega
    · rw [List.length_cons, List.length_cons]; have := putE_len k q es; omega
/-- all that the dict holds, by a value of its keys -/
def totE (g : Nat → Nat → Rat) (es : ED) : Rat := sQ (fun e : (Nat × Nat) × Rat => e.2 * g e.1.1 e.1.2) es
theorem totE_put (g : Nat → Nat → Rat) (k : Nat × Nat) (x : Rat) : ∀ es : ED, totE g (putE es k ((getE es k).getD 0 + x)) = totE g es + x * g k.1 k.2
  | [] => by
    show (0 + x) * g k.1 k.2 + 0 = 0 + x * g k.1 k.2
    rw [Rat.zero_add, Rat.add_zero, Rat.zero_add]
  | e :: es => by
    have ih := totE_put g k x es
    unfold getE putE
    by_cases h : e.1 = k
    · rw [if_pos h, if_pos h]
      show (e.2 + x) * g k.1 k.2 + totE g es = (e.2 * g e.1.1 e.1.2 + totE g es) + x * g k.1 k.2
      rw [h]; grind
    · rw [if_neg h, if_neg h]
      show e.2 * g e.1.1 e.1.2 + totE g _ = (e.2 * g e.1.1 e.1.2 + totE g es) + x * g k.1 k.2
      rw [ih, Rat.add_assoc]
/-! cotangents -/
theorem does_cotangent : Does c_cotangent w_cotangent N_cotangent 3 := by
  rintro ds S P X ⟨a, b, c, rfl, ha, hb, hc, nz, h⟩
  refine ⟨rfl, ?_⟩
  show w_cotangent _ _ [some (DP a), some (DP b), some (DP c)] S
  simp only [w_cotangent, xret, xcall, xcons, xnil, v0, v1, v2]
  refine k_dot (SzP_mono ha (by decide)) (SzP_mono hb (by decide)) (SzP_mono hc (by decide)) (k_doubled_area (SzP_mono ha (by decide)) (SzP_mono hb (by decide)) (SzP_mono hc (by decide)) ?_)
  exact k_over (sz_dot ha hb hc (by decide)) (sz_dar ha hb hc (by decide)) nz ⟨S, Sub.refl _, h⟩
theorem k_cot {a b c : Rat × Rat} {S : Sto} {P : PD} {X : PX} (ha : SzP 20 a) (hb : SzP 20 b) (hc : SzP 20 c) (nz : dar a b c ≠ 0) (k : P (DQ (cot a b c)) S) : c_cotangent [DP a, DP b, DP c] S P X := ⟨a, b, c, rfl, ha, hb, hc, nz, k⟩
/-! weights -/
theorem xdnew {r : PL.Env} {S : Sto} {P : PD} {X : PX} : wDNew r S P X = ∀ p, S p = none → P (.ref p) (sput S p (.oth (.dic []))) := id rfl
theorem xdget {a b c : WE} {r : PL.Env} {S : Sto} {P : PD} {X : PX} : wDGet a b c r S P X = a r S (fun x S1 => isDic S1 x ∧ b r S1 (fun y S2 => c r S2 (fun z S3 => oDGetD x y z S3 P) X) X) X := id rfl
theorem xdsub {a b : WE} {d : D} {r : PL.Env} {S : Sto} {R : PL.Env → Sto → Prop} {X : PX} : gDSub a b d r S R X = a r S (fun o S1 => b r S1 (fun i S2 => oDPut o i d S2 (fun S3 => R r S3)) X) X := id rfl
theorem omin2 {i j : Int} {S : Sto} {P : PD} : oMin [.int i, .int j] S P = P (.int (min i j)) S := id rfl
theorem omax2 {i j : Int} {S : Sto} {P : PD} : oMax [.int i, .int j] S P = P (.int (max i j)) S := id rfl
theorem key_mm (i j : Nat) : D.tup [.int (min (i : Int) (j : Int)), .int (max (i : Int) (j : Int))] = keyD (keyL (min i j, max i j)) := by
  have e1 : min (i : Int) (j : Int) = ((min i j : Nat) : Int) := by omega
  have e2 : max (i : Int) (j : Int) = ((max i j : Nat) : Int) := by omega
  rw [e1, e2]; rfl
/-- what the dict holds so far -/
structure WJ (n : Nat) (D : Int) (K m : Nat) (es : ED) (T : (Nat → Nat → Rat) → Rat) : Prop where
  nd : (es.map (·.1)).Nodup
  len : es.length ≤ m
  key : ∀ e ∈ es, e.1.1 < n ∧ e.1.2 < n
  val : ∀ e ∈ es, Ov D (m * K) e.2
  tot : ∀ g : Nat → Nat → Rat, (∀ i j, g i j = g j i) → totE g es = T g
abbrev addE (es : ED) (i j : Nat) (x : Rat) : ED := putE es (min i j, max i j) ((getE es (min i j, max i j)).getD 0 + x)
theorem wj_ov {n : Nat} {D : Int} {K m : Nat} {es : ED} {T : (Nat → Nat → Rat) → Rat} (W : WJ n D K m es T) (k : Nat × Nat) : Ov D (m * K) ((getE es k).getD 0) := by
  cases e : getE es k with
  | none => exact Ov.zero _ _
  | some q => exact W.val _ (getE_some e)
theorem wj_add {n : Nat} {D : Int} {K m : Nat} {es : ED} {T : (Nat → Nat → Rat) → Rat} {i j : Nat} {x : Rat} (W : WJ n D K m es T) (hi : i < n) (hj : j < n) (hx : Ov D K x) : WJ n D K (m + 1) (addE es i j x) (fun g => T g + x * g i j) := by
  have o := (wj_ov W (min i j, max i j)).add hx
  rw [show m * K + K = (m + 1) * K by rw [Nat.succ_mul]] at o
  refine ⟨putE_nodup _ _ es W.nd, Nat.le_trans (putE_len _ _ es) (Nat.succ_le_succ W.len), fun e he => ?_, fun e he => ?_, fun g hg => ?_⟩
  · rcases putE_mem he with rfl | he
    · exact ⟨by dsimp only; omega, by dsimp only; omega⟩
    · exact W.key e he
  · rcases putE_mem he with rfl | he
    · exact o
    · exact (W.val e he).mono (Nat.mul_le_mul_right _ (by omega))
  · rw [totE_put, W.tot g hg]
    dsimp only
    have : g (min i j) (max i j) = g i j := by
      by_cases c : i ≤ j
      · rw [Nat.min_eq_left c, Nat.max_eq_right c]
      · rw [Nat.min_eq_right (by omega), Nat.max_eq_left (by omega), hg]
    rw [this]
theorem w_body {E : EndD} {Y : XS} {S0 : Sto} {l : Addr} {n : Nat} {D : Int} {K m i j : Nat} {es : ED} {T : (Nat → Nat → Rat) → Rat} {x : Rat} {z0 z2 z3 z4 z5 z6 z7 z8 z12 : Option PL.D} (W : WJ n D K m es T) (hD : D ≠ 0) (bD : Bd 800 D) (hm : m < 80) (hK : K < 2 ^ 850) (hi : i < n) (hj : j < n) (hx : Ov D K x)
    (nx : ∀ z, E.nx [z0, some (.ref l), z2, z3, z4, z5, z6, z7, z8, some (.int (i : Int)), some (.int (j : Int)), some (DQ x), z, none, none] (sput S0 l (.oth (.dic (dicE (addE es i j x)))))) :
    w_weights_of_3 E Y [z0, some (.ref l), z2, z3, z4, z5, z6, z7, z8, some (.int (i : Int)), some (.int (j : Int)), some (DQ x), z12, none, none] (sput S0 l (.oth (.dic (dicE es)))) := by
  have at0 : (sput S0 l (.oth (.dic (dicE es)))) l = some (.oth (.dic (dicE es))) := sput_same
  simp only [w_weights_of_3, xseq, w_weights_of_2, xset, xtup, xn, xcons, xnil, PL.v9, v10, omin2, omax2]
  refine ⟨two_line, ?_⟩
  rw [key_mm]
  simp only [g12, w_weights_of_1, xset, xcall, xcons, xnil, xdget, v1, v11, v12, xc]
  have hk : m * K < 2 ^ 860 := by
    have a1 : m * K ≤ 80 * K := Nat.mul_le_mul_right _ (by omega)
    have a2 : 80 * K < 2 ^ 7 * 2 ^ 850 := by omega
    have a3 : (2 : Nat) ^ 7 * 2 ^ 850 ≤ 2 ^ 860 := by decide +kernel
    omega
  refine ⟨⟨l, _, rfl, at0⟩, l, _, _, rfl, at0, rfl, ?_⟩
  rw [getK_E, show ((getE es (min i j, max i j)).map DQ).getD k_ZERO = DQ ((getE es (min i j, max i j)).getD 0) by cases getE es (min i j, max i j) <;> rfl]
  refine k_plus (((wj_ov W _).sz hD (bD.mono (by decide)) hk).mono (by decide)) ((hx.sz hD (bD.mono (by decide)) (Nat.lt_of_lt_of_le hK (by decide +kernel))).mono (n := 2025) (by decide : 850 ≤ 2025)) ?_
  simp only [xdsub, v1, v12]
  refine ⟨l, _, _, rfl, at0, rfl, ?_, ?_⟩
  · have := W.len
    unfold dicE
    rw [List.length_map]
    exact Nat.lt_of_lt_of_le (show es.length < 1000 by omega) (le_line (Nat.le_refl _))
  · rw [putD_E _ _ _ W.nd, sput_sput]
    exact nx _
/-- numbered from k on -/
def enF (k : Nat) (ds : List D) : List D := ds.mapIdx fun i d => .tup [.int ((k + i : Nat) : Int), d]
theorem enF0 (ds : List D) : enumD ds = enF 0 ds := by
  unfold enumD enF
  simp
theorem enF_cons (k : Nat) (d : D) (ds : List D) : enF k (d :: ds) = .tup [.int (k : Int), d] :: enF (k + 1) ds := by
  unfold enF
  rw [List.mapIdx_cons]
  congr 1
  congr 1
  funext i d'
  rw [show k + (i + 1) = k + 1 + i by omega]
theorem ge_at {ps : List (Rat × Rat)} {tr : List TR} {n : Nat} {t : TR} (h : tr[n]? = some t) (i : triIn ps.length t) : At ps tr n t := ⟨h, i.1, i.2.1, i.2.2⟩
theorem pt_mem {ps : List (Rat × Rat)} {k : Nat} (h : k < ps.length) : ptAt ps k ∈ ps := getD_mem h
/-- the triples so far -/
abbrev WI (ps : List (Rat × Rat)) (B : Int) (K : Nat) (pre : List TR) (es : ED) : Prop := WJ ps.length B K (3 * pre.length) es (fun g => sQ (eG ps g) pre)
theorem g23 {n0 n1 n2 n3 : Nat} {a b c d : D} {r : PL.Env} {S : Sto} {R : PL.Env → Sto → Prop} {X : PX} : gTupD 2 (gConsD (gVar n0) (gConsD (gTupD 3 (gConsD (gVar n1) (gConsD (gVar n2) (gConsD (gVar n3) gNilD)))) gNilD)) (.tup [a, .tup [b, c, d]]) r S R X = R ((((r.set n0 (some a)).set n1 (some b)).set n2 (some c)).set n3 (some d)) S :=
  propext ⟨fun h => h.2.2.2.2, fun h => ⟨rfl, rfl, rfl, rfl, h⟩⟩
section
variable {ps : List (Rat × Rat)} {tr : List TR} {B : Int} {K : Nat} {l : Addr} {S0 : Sto}
theorem w_turn {E : EndD} {Y : XS} {pre : List TR} {t : TR} {es : ED} {z6 z7 z8 z9 z10 z11 z12 : Option D} (M : MG B K ps tr) (hn : tr[pre.length]? = some t) (ht : t ∈ tr) (hp : pre.length < 24) (W : WI ps B K pre es)
    (nx : ∀ es' z6 z7 z8 z9 z10 z11 z12, WI ps B K (pre ++ [t]) es' → E.nx [some (MD ps tr), some (.ref l), some (.int (pre.length : Int)), some (.int (t.1 : Int)), some (.int (t.2.1 : Int)), some (.int (t.2.2 : Int)), z6, z7, z8, z9, z10, z11, z12, none, none] (sput S0 l (.oth (.dic (dicE es'))))) :
    w_weights_of_6 E Y [some (MD ps tr), some (.ref l), some (.int (pre.length : Int)), some (.int (t.1 : Int)), some (.int (t.2.1 : Int)), some (.int (t.2.2 : Int)), z6, z7, z8, z9, z10, z11, z12, none, none] (sput S0 l (.oth (.dic (dicE es)))) := by
  have G := M.ok t ht
  obtain ⟨i1, i2, i3⟩ := G.ins
  have s1 := M.sz _ (pt_mem i1)
  have s2 := M.sz _ (pt_mem i2)
  have s3 := M.sz _ (pt_mem i3)
  simp only [w_weights_of_6, xseq, w_weights_of_5, xset, xcall, xcons, xnil, v0, v2]
  refine k_cor (ge_at hn G.ins) ?_
  show gTupD 3 _ (.tup [DP (ptAt ps t.1), DP (ptAt ps t.2.1), DP (ptAt ps t.2.2)]) _ _ _ _
  rw [g3p]
  simp only [List.set_cons_succ, List.set_cons_zero, w_weights_of_4, xfor, xitems, xtup, xcall, xcons, xnil, v3, v4, PL.v5, v6, PL.v7, PL.v8]
  refine k_cot s3 s1 s2 G.nz2 ⟨tri3, k_cot s1 s2 s3 G.nz0 ⟨tri3, k_cot s2 s3 s1 G.nz1 ⟨tri3, tri3, ?_⟩⟩⟩
  rw [xloop, g3p]
  simp only [List.set_cons_succ, List.set_cons_zero]
  refine w_body W M.nz M.bD (by omega) M.bK i1 i2 G.o2 fun z => ?_
  dsimp only
  rw [xloop, g3p]
  simp only [List.set_cons_succ, List.set_cons_zero]
  refine w_body (wj_add W i1 i2 G.o2) M.nz M.bD (by omega) M.bK i2 i3 G.o0 fun z => ?_
  dsimp only
  rw [xloop, g3p]
  simp only [List.set_cons_succ, List.set_cons_zero]
  refine w_body (wj_add (wj_add W i1 i2 G.o2) i2 i3 G.o0) M.nz M.bD (by omega) M.bK i3 i1 G.o1 fun z => ?_
  dsimp only
  rw [xloopN]
  have W3 := wj_add (wj_add (wj_add W i1 i2 G.o2) i2 i3 G.o0) i3 i1 G.o1
  refine nx _ _ _ _ _ _ _ _ ?_
  have e : 3 * (pre ++ [t]).length = 3 * pre.length + 1 + 1 + 1 := by rw [List.length_append, List.length_singleton]; omega
  unfold WI
  rw [e]
  refine ⟨W3.nd, W3.len, W3.key, W3.val, fun g hg => ?_⟩
  rw [W3.tot g hg, sQ_app, sQ_one]
  unfold eG
  rw [Rat.add_assoc, Rat.add_assoc]
  congr 1
  rw [← Rat.add_assoc]
theorem w_loop {E : EndD} {Y : XS} (M : MG B K ps tr) (nx : ∀ es z2 z3 z4 z5 z6 z7 z8 z9 z10 z11 z12, WI ps B K tr es → E.nx [some (MD ps tr), some (.ref l), z2, z3, z4, z5, z6, z7, z8, z9, z10, z11, z12, none, none] (sput S0 l (.oth (.dic (dicE es))))) :
    ∀ (ts pre : List TR) (es : ED) (z2 z3 z4 z5 z6 z7 z8 z9 z10 z11 z12 : Option D), pre ++ ts = tr → WI ps B K pre es →
      loopD (gTupD 2 (gConsD (gVar 2) (gConsD (gTupD 3 (gConsD (gVar 3) (gConsD (gVar 4) (gConsD (gVar 5) gNilD)))) gNilD))) w_weights_of_6 E Y (enF pre.length (ts.map TT)) [some (MD ps tr), some (.ref l), z2, z3, z4, z5, z6, z7, z8, z9, z10, z11, z12, none, none] (sput S0 l (.oth (.dic (dicE es))))
  | [], pre, es, z2, z3, z4, z5, z6, z7, z8, z9, z10, z11, z12, e, W => by
    rw [List.append_nil] at e
    subst e
    exact nx es _ _ _ _ _ _ _ _ _ _ _ W
  | t :: ts, pre, es, z2, z3, z4, z5, z6, z7, z8, z9, z10, z11, z12, e, W => by
    have hn : tr[pre.length]? = some t := by rw [← e, List.getElem?_append_right (Nat.le_refl _), Nat.sub_self]; rfl
    have ht : t ∈ tr := List.mem_of_getElem? hn
    have hp : pre.length < 24 := by
      have := M.lt
      have := congrArg List.length e
      rw [List.length_append, List.length_cons] at this
      omega
    rw [List.map_cons, enF_cons, xloop]
    show gTupD 2 _ (.tup [.int (pre.length : Int), .tup [.int (t.1 : Int), .int (t.2.1 : Int), .int (t.2.2 : Int)]]) _ _ _ _
    rw [g23]
    simp only [List.set_cons_succ, List.set_cons_zero]
    refine w_turn M hn ht hp W fun es' z6 z7 z8 z9 z10 z11 z12 W' => ?_
    dsimp only
    have := w_loop (E := E) (Y := Y) M nx ts (pre ++ [t]) es' (some (.int (pre.length : Int))) (some (.int (t.1 : Int))) (some (.int (t.2.1 : Int))) (some (.int (t.2.2 : Int))) z6 z7 z8 z9 z10 z11 z12 (by rw [List.append_assoc]; exact e) W'
    rw [List.length_append, List.length_singleton] at this
    exact this
end
theorem lcs_run {G : WG} {w : WE} {vs : List Nat} {env : PL.Env} {p : Addr} {P : PD} {S : Sto} {α : Type} (g f : α → D) (hp : S p = none) : ∀ (xs : List α) (acc : List D), acc.length + xs.length ≤ sizeLine →
    (∀ x ∈ xs, ∀ S1 : Sto, (∀ a o, S a = some o → S1 a = some o) → ∀ R : D → Sto → Prop, R (f x) S1 → G (g x) (wipeD env vs) S1 (fun e1 S2 => w e1 S2 R (fun _ _ => False)) (fun _ _ => False)) →
    P (.lst (acc ++ xs.map f)) S → lcD G tYesD w vs env p (lcEnd P p) (xs.map g) (sput S p (.lst acc))
  | [], acc, _, _, h => by
    rw [List.map_nil, List.append_nil] at h
    refine lcEnd_i sput_at ?_
    rw [sdel_put hp]
    exact h
  | x :: xs, acc, hl, hs, h => by
    rw [List.length_cons] at hl
    refine hs x List.mem_cons_self _ (fun a o e => by
      have : a ≠ p := fun z => by rw [z, hp] at e; cases e
      rw [sput_ne this]; exact e) (fun y S3 => lcPut p y _ S3) ?_
    show lcPut p (f x) _ _
    unfold lcPut
    rw [sput_at]
    refine ⟨by omega, ?_⟩
    rw [sput_sput]
    exact lcs_run g f hp xs (acc ++ [f x]) (by rw [List.length_append, List.length_singleton]; omega) (fun d' hd => hs d' (List.mem_cons_of_mem _ hd)) (by rw [List.append_assoc]; exact h)
/-- a comprehension that only maps, and reads what the store holds -/
theorem lcS_go {wi : PL.WI} {G : WG} {w : WE} {vs : List Nat} {env : PL.Env} {S : Sto} {P : PD} {X : PX} {α : Type} (g f : α → D) (xs : List α) (hi : ∀ Q : List D → Sto → Prop, Q (xs.map g) S → wi env S Q X) (hl : xs.length ≤ sizeLine)
    (hs : ∀ x ∈ xs, ∀ S1 : Sto, (∀ a o, S a = some o → S1 a = some o) → ∀ R : D → Sto → Prop, R (f x) S1 → G (g x) (wipeD env vs) S1 (fun e1 S2 => w e1 S2 R (fun _ _ => False)) (fun _ _ => False))
    (h : P (.lst (xs.map f)) S) : wLc wi G tYesD w vs env S P X :=
  hi _ fun p hp => lcs_run g f hp xs [] (by simpa using hl) hs h
theorem keysE (es : ED) : ∃ fs : ED, fs.Perm es ∧ keysD (dicE es) = fs.map fun e => keyD (keyL e.1) := by
  refine ⟨es.mergeSort fun a b => leD (keyD (keyL a.1)) (keyD (keyL b.1)), List.mergeSort_perm _ _, ?_⟩
  unfold keysD dicE
  rw [List.map_map]
  exact (List.map_mergeSort (r := fun a b : (Nat × Nat) × Rat => leD (keyD (keyL a.1)) (keyD (keyL b.1))) (s := leD) (f := fun e : (Nat × Nat) × Rat => keyD (keyL e.1)) fun _ _ _ _ => rfl).symm
theorem ods {a : Addr} {es : ED} {k : Nat × Nat} {q : Rat} {S : Sto} {P : PD} (h : S a = some (.oth (.dic (dicE es)))) (g : getE es k = some q) (p : P (DQ q) S) : oDGet (.ref a) (keyD (keyL k)) S P := ⟨a, _, keyL k, DQ q, rfl, h, rfl, by rw [getK_E, g]; rfl, p⟩
theorem k_half {q : Rat} {S : Sto} {P : PD} {X : PX} (h : Sz 2025 q) (k : P (DQ (q / 2)) S) : c_half [DQ q] S P X := ⟨q, rfl, h, k⟩
theorem does_weights_of : Does c_weights_of w_weights_of N_weights_of 1 := by
  rintro ds S P X ⟨ps, tr, B, K, rfl, M, h⟩
  refine ⟨rfl, ?_⟩
  show w_weights_of_10 _ _ [some (MD ps tr), none, none, none, none, none, none, none, none, none, none, none, none, none, none] S
  have f1 : ∀ {r : PL.Env} {S : Sto} {P : PD} {X : PX}, wFld "Mesh" ["points", "triangles"] 1 (wVar 0) (some (MD ps tr) :: r) S P X = P (TL tr) S := ft fun Q => v0
  simp only [w_weights_of_10, xseq, w_weights_of_9, xset, xdnew]
  intro l hl
  simp only [g1, w_weights_of_8, xseq, w_weights_of_7, xfor, xenum, xcons, xnil, f1]
  show loopD _ _ _ _ (enumD (tr.map TT)) _ (sput S l (.oth (.dic (dicE []))))
  rw [enF0]
  refine w_loop M ?_ tr [] [] _ _ _ _ _ _ _ _ _ _ _ rfl ⟨List.nodup_nil, Nat.le_refl _, (fun e he => by cases he), (fun e he => by cases he), fun g _ => rfl⟩
  intro es z2 z3 z4 z5 z6 z7 z8 z9 z10 z11 z12 W
  obtain ⟨fs, hp, hk⟩ := keysE es
  have at0 : (sput S l (.oth (.dic (dicE es)))) l = some (.oth (.dic (dicE es))) := sput_same
  have hl2 : es.length ≤ 72 := by have := W.len; have := M.lt; omega
  have hl3 := hp.length_eq
  simp only [w_weights_of_0, xret, xn, xcons, xnil]
  refine lcS_go (fun e : (Nat × Nat) × Rat => keyD (keyL e.1)) (fun e => WD (e.1.1, e.1.2, e.2 / 2)) fs (fun Q hq => ?_) (le_line (by omega)) (fun e he S1 hS R hR => ?_) ?_
  · simp only [xitems, xn, xcons, xnil, v1]
    refine ⟨l, _, rfl, at0, fun p hp2 => ?_, by rw [hk]; exact hq⟩
    unfold dicE at hp2
    obtain ⟨e, _, rfl⟩ := List.mem_map.mp hp2
    simp [keyL]
  · have at1 := hS _ _ at0
    have hm := hp.mem_iff.mp he
    have w1314 : ∀ {a0 a1 a2 a3 a4 a5 a6 a7 a8 a9 a10 a11 a12 a13 a14 : Option D}, wipeD [a0, a1, a2, a3, a4, a5, a6, a7, a8, a9, a10, a11, a12, a13, a14] [13, 14] = [a0, a1, a2, a3, a4, a5, a6, a7, a8, a9, a10, a11, a12, none, none] := rfl
    rw [w1314]
    show gTupD 2 (gConsD (gVar 13) (gConsD (gVar 14) gNilD)) (.tup [.int (e.1.1 : Int), .int (e.1.2 : Int)]) _ _ _ _
    rw [g2p]
    simp only [List.set_cons_succ, List.set_cons_zero, xtup, xcons, xnil, xcall, x2, v13, v14, v1]
    refine ⟨two_line, ods (k := e.1) at1 (getE_of W.nd hm) (k_half ?_ ⟨tri3, hR⟩)⟩
    have hb : 3 * tr.length * K < 2 ^ 860 := by
      have a1 : 3 * tr.length * K ≤ 72 * K := Nat.mul_le_mul_right _ (by have := M.lt; omega)
      have a2 : 72 * K < 2 ^ 7 * 2 ^ 850 := by have := M.bK; omega
      have a3 : (2 : Nat) ^ 7 * 2 ^ 850 ≤ 2 ^ 860 := by decide +kernel
      omega
    exact ((W.val e hm).sz M.nz (M.bD.mono (by decide)) hb).mono (by decide)
  · have em : fs.map (fun e => WD (e.1.1, e.1.2, e.2 / 2)) = (fs.map fun e => ((e.1.1, e.1.2, e.2 / 2) : WT)).map WD := by rw [List.map_map]; rfl
    rw [em, tup_lst]
    refine ⟨sdel (sput S l (.oth (.dic (dicE es)))) l, sdel_sub _ _, ?_⟩
    rw [sdel_put hl]
    refine h _ ⟨by rw [List.length_map]; omega, fun w hw => ?_, fun g hg => ?_⟩
    · obtain ⟨e, he, rfl⟩ := List.mem_map.mp hw
      have hm := hp.mem_iff.mp he
      exact ⟨(W.key e hm).1, (W.key e hm).2, ((W.val e hm).mono (Nat.mul_le_mul_right _ (by have := M.lt; omega))).half⟩
    · rw [sQ_map, ← W.tot g hg]
      unfold totE
      rw [← sQ_perm hp, ← sQ_div]
      refine sQ_congr fun e _ => ?_
      dsimp only
      rw [Rat.div_def, Rat.div_def, Rat.mul_assoc, Rat.mul_comm _ (g _ _), ← Rat.mul_assoc]
/-! energies -/
theorem bdk {n K M : Nat} (hn : n ≤ 80) (hK : K < 2 ^ 850) (hM : M < 2 ^ 22) : n * (72 * K * (2 * M * (2 * M))) < 2 ^ 1000 := by
  have a1 : 72 * K ≤ 2 ^ 7 * 2 ^ 850 := Nat.mul_le_mul (by decide) (by omega)
  have a2 : 2 * M ≤ 2 ^ 23 := by omega
  have a3 : n * (72 * K * (2 * M * (2 * M))) ≤ 2 ^ 7 * (2 ^ 7 * 2 ^ 850 * (2 ^ 23 * 2 ^ 23)) := Nat.mul_le_mul (by omega) (Nat.mul_le_mul a1 (Nat.mul_le_mul a2 a2))
  exact Nat.lt_of_le_of_lt a3 (by decide +kernel)
theorem bdD {B L : Int} (bD : Bd 800 B) (hL : 1 ≤ L ∧ L ≤ 400) : Bd 1000 (2 * B * (L * L)) := by
  have l1 : Bd 20 L := bd_s (by omega) (by decide)
  have c2 : Bd 20 (2 : Int) := bd_s (by decide) (by decide)
  exact ((c2.mul bD).mul (l1.mul l1)).mono (by decide)
theorem nzD {B L : Int} (nz : B ≠ 0) (hL : 1 ≤ L ∧ L ≤ 400) : 2 * B * (L * L) ≠ 0 := Int.mul_ne_zero (Int.mul_ne_zero (by decide) nz) (Int.mul_ne_zero (by omega) (by omega))
theorem fo_at {L : Int} {M n k : Nat} {fs : List Rat} (F : FO L M n fs) (hk : k < n) : Ov L M (qAt fs k) := F.ok _ (getD_mem (by rw [F.len]; exact hk))
theorem fo_sz {L : Int} {M : Nat} {q : Rat} (hL : 1 ≤ L ∧ L ≤ 400) (hM : M < 2 ^ 24) (h : Ov L M q) : Sz 2025 q := (h.sz (n := 24) (by omega) (bd_s (by omega) (by decide)) hM).mono (by decide)
theorem zero_Q : k_ZERO = DQ 0 := rfl
theorem wd_unp {w : WT} {n0 n1 n2 : Nat} {r : PL.Env} {S : Sto} {R : PL.Env → Sto → Prop} {X : PX} : gTupD 3 (gConsD (gVar n0) (gConsD (gVar n1) (gConsD (gVar n2) gNilD))) (WD w) r S R X = R (((r.set n0 (some (.int (w.1 : Int)))).set n1 (some (.int (w.2.1 : Int)))).set n2 (some (DQ w.2.2))) S := g3p
theorem me_loop {E : EndD} {Y : XS} {S : Sto} {B L : Int} {K M n : Nat} {f o : List Rat} {z0 : Option D} (nz : B ≠ 0) (bD : Bd 800 B) (hK : K < 2 ^ 850) (hL : 1 ≤ L ∧ L ≤ 400) (hM : M < 2 ^ 22) (F : FO L M n f) (G : FO L M n o) {ws : List WT} (hl : ws.length ≤ 72) (hw : ∀ w ∈ ws, w.1 < n ∧ w.2.1 < n ∧ Ov (2 * B) (72 * K) w.2.2)
    (nx : ∀ z4 z5 z6 z7, E.nx [z0, some (FQ f), some (FQ o), some (DQ (sQ (fun w : WT => w.2.2 * dG f o w.1 w.2.1) ws)), z4, z5, z6, z7] S) :
    ∀ (rs pre : List WT) (z4 z5 z6 z7 : Option D), pre ++ rs = ws → Ov (2 * B * (L * L)) (pre.length * (72 * K * (2 * M * (2 * M)))) (sQ (fun w : WT => w.2.2 * dG f o w.1 w.2.1) pre) →
      loopD (gTupD 3 (gConsD (gVar 4) (gConsD (gVar 5) (gConsD (gVar 6) gNilD)))) w_mixed_energy_3 E Y (rs.map WD) [z0, some (FQ f), some (FQ o), some (DQ (sQ (fun w : WT => w.2.2 * dG f o w.1 w.2.1) pre)), z4, z5, z6, z7] S
  | [], pre, z4, z5, z6, z7, e, _ => by
    rw [List.append_nil] at e
    subst e
    exact nx _ _ _ _
  | w :: rs, pre, z4, z5, z6, z7, e, O => by
    have hm : w ∈ ws := by rw [← e]; simp
    obtain ⟨h1, h2, h3⟩ := hw w hm
    have hp : pre.length < 72 := by
      have := congrArg List.length e
      rw [List.length_append, List.length_cons] at this
      omega
    have fl := F.len
    have gl := G.len
    have a1 := fo_at F h1
    have a2 := fo_at F h2
    have b1 := fo_at G h1
    have b2 := fo_at G h2
    have dA := a2.sub a1
    have dB := b2.sub b1
    rw [show M + M = 2 * M by omega] at dA dB
    have both := dA.mul dB
    have term := h3.mul both
    have l1 : Bd 20 L := bd_s (by omega) (by decide)
    have nL : L * L ≠ 0 := Int.mul_ne_zero (by omega) (by omega)
    have sBoth : Sz 2025 ((qAt f w.2.1 - qAt f w.1) * (qAt o w.2.1 - qAt o w.1)) := (both.sz (n := 48) nL ((l1.mul l1).mono (by decide)) (by
      have : 2 * M * (2 * M) ≤ 2 ^ 23 * 2 ^ 23 := Nat.mul_le_mul (by omega) (by omega)
      omega)).mono (by decide)
    have sMore : Sz 2025 w.2.2 := (h3.sz (n := 900) (Int.mul_ne_zero (by decide) nz) (((show Bd 20 (2 : Int) from bd_s (by decide) (by decide)).mul bD).mono (by decide)) (by
      have q1 : 72 * K < 2 ^ 7 * 2 ^ 850 := by omega
      exact Nat.lt_of_lt_of_le q1 (by decide +kernel))).mono (by decide)
    have nx2 : Ov (2 * B * (L * L)) ((pre ++ [w]).length * (72 * K * (2 * M * (2 * M)))) (sQ (fun w : WT => w.2.2 * dG f o w.1 w.2.1) (pre ++ [w])) := by
      rw [sQ_app, sQ_one, List.length_append, List.length_singleton, Nat.succ_mul]
      exact O.add term
    rw [List.map_cons, xloop, wd_unp]
    simp only [List.set_cons_succ, List.set_cons_zero, w_mixed_energy_3, xseq, w_mixed_energy_2, xset, xcall, xcons, xnil, x2, v1, v2, v4, PL.v5, fq_at (show w.2.1 < f.length by omega), fq_at (show w.1 < f.length by omega), fq_at (show w.2.1 < o.length by omega), fq_at (show w.1 < o.length by omega)]
    refine k_minus (fo_sz hL (by omega) a2) (fo_sz hL (by omega) a1) (k_minus (fo_sz hL (by omega) b2) (fo_sz hL (by omega) b1) (k_times (fo_sz hL (by omega) dA) (fo_sz hL (by omega) dB) ?_))
    simp only [PL.g7, w_mixed_energy_1, xset, xcall, xcons, xnil, v3, v6, PL.v7]
    refine k_times sMore sBoth (k_plus ((O.sz (nzD nz hL) (bdD bD hL) (bdk (by omega) hK hM)).mono (by decide)) ((term.sz (nzD nz hL) (bdD bD hL) (by have := bdk (n := 1) (by omega) hK hM; omega)).mono (by decide)) ?_)
    simp only [g3]
    have es : sQ (fun w : WT => w.2.2 * dG f o w.1 w.2.1) pre + w.2.2 * ((qAt f w.2.1 - qAt f w.1) * (qAt o w.2.1 - qAt o w.1)) = sQ (fun w : WT => w.2.2 * dG f o w.1 w.2.1) (pre ++ [w]) := by rw [sQ_app, sQ_one]; rfl
    rw [es]
    exact me_loop nz bD hK hL hM F G hl hw nx rs (pre ++ [w]) _ _ _ _ (by rw [List.append_assoc]; exact e) nx2
theorem dG_sym (f o : List Rat) (i j : Nat) : dG f o i j = dG f o j i := by unfold dG; grind
theorem does_mixed_energy : Does c_mixed_energy w_mixed_energy N_mixed_energy 3 := by
  rintro ds S P X ⟨ps, tr, B, K, L, M, f, o, rfl, G, ⟨l1, l2, hM⟩, F, O, h⟩
  refine ⟨rfl, ?_⟩
  show w_mixed_energy_7 _ _ [some (MD ps tr), some (FQ f), some (FQ o), none, none, none, none, none] S
  simp only [w_mixed_energy_7, xseq, w_mixed_energy_6, xset, xc, g3, w_mixed_energy_5, w_mixed_energy_4, xfor, xitems, xcall, xcons, xnil, v0]
  refine ⟨ps, tr, B, K, rfl, G, fun ws W => ?_⟩
  show loopD _ _ _ _ (ws.map WD) _ _
  rw [zero_Q]
  refine me_loop G.nz G.bD G.bK ⟨l1, l2⟩ hM F O W.len W.ok ?_ ws [] _ _ _ _ rfl (Ov.zero _ _)
  intro z4 z5 z6 z7
  simp only [w_mixed_energy_0, xret, v3]
  rw [W.sum (dG f o) (dG_sym f o)]
  exact ⟨S, Sub.refl _, h⟩
theorem eg_ov {ps : List (Rat × Rat)} {tr : List TR} {B L : Int} {K M : Nat} {f o : List Rat} (G : MG B K ps tr) (F : FO L M ps.length f) (O : FO L M ps.length o) {t : TR} (ht : t ∈ tr) : Ov (B * (L * L)) (3 * (K * (2 * M * (2 * M)))) (eG ps (dG f o) t) := by
  obtain ⟨⟨i1, i2, i3⟩, _, _, _, o0, o1, o2⟩ := G.ok t ht
  have d : ∀ {i j : Nat}, i < ps.length → j < ps.length → Ov (L * L) (2 * M * (2 * M)) (dG f o i j) := fun {i j} hi hj => by
    have dA := (fo_at F hj).sub (fo_at F hi)
    have dB := (fo_at O hj).sub (fo_at O hi)
    rw [show M + M = 2 * M by omega] at dA dB
    exact dA.mul dB
  exact (((o2.mul (d i1 i2)).add (o0.mul (d i2 i3))).add (o1.mul (d i3 i1))).mono (by omega)
theorem mx_sz {ps : List (Rat × Rat)} {tr : List TR} {B L : Int} {K M : Nat} {f o : List Rat} (G : MG B K ps tr) (hL : 1 ≤ L ∧ L ≤ 400) (hM : M < 2 ^ 22) (F : FO L M ps.length f) (O : FO L M ps.length o) : Sz 1100 (sQ (eG ps (dG f o)) tr / 2) := by
  have s := (sQ_ov fun t ht => eg_ov G F O ht).half
  rw [← Int.mul_assoc] at s
  refine (s.sz (nzD G.nz hL) (bdD G.bD hL) ?_).mono (by decide)
  have a1 : tr.length * (3 * (K * (2 * M * (2 * M)))) ≤ 24 * (3 * (K * (2 * M * (2 * M)))) := Nat.mul_le_mul_right _ G.lt
  have a2 := bdk (n := 1) (by decide) G.bK hM
  have a3 : 24 * (3 * (K * (2 * M * (2 * M)))) = 1 * (72 * K * (2 * M * (2 * M))) := by rw [Nat.one_mul, ← Nat.mul_assoc, ← Nat.mul_assoc]
  omega
theorem does_energy : Does c_energy w_energy N_energy 2 := by
  rintro ds S P X ⟨ps, tr, B, K, L, M, f, rfl, G, ⟨l1, l2, hM⟩, F, h⟩
  refine ⟨rfl, ?_⟩
  show w_energy _ _ [some (MD ps tr), some (FQ f)] S
  simp only [w_energy, xret, xcall, xcons, xnil, v0, v1]
  refine ⟨ps, tr, B, K, L, M, f, f, rfl, G, ⟨l1, l2, hM⟩, F, F, k_half ((mx_sz G ⟨l1, l2⟩ hM F F).mono (by decide)) ⟨S, Sub.refl _, ?_⟩⟩
  have e : sQ (eG ps (dG f f)) tr / 2 / 2 = sQ (eG ps (dG f f)) tr / 4 := by grind
  rw [e]; exact h
theorem te_loop {E : EndD} {Y : XS} {S : Sto} {ps : List (Rat × Rat)} {tr : List TR} {fs : List Rat} {B : Int} {K : Nat} (nz : B ≠ 0) (bD : Bd 900 B) (hK : K < 2 ^ 950) (hf : fs.length = ps.length) (hl : tr.length ≤ 24) (ho : ∀ t ∈ tr, triIn ps.length t ∧ SmT ps fs t ∧ Ov B K (teQ ps fs t))
    (nx : ∀ z, E.nx [some (MD ps tr), some (FQ fs), some (DQ (sQ (teQ ps fs) tr)), z] S) :
    ∀ (rs pre : List TR) (z : Option D), pre ++ rs = tr → Ov B (pre.length * K) (sQ (teQ ps fs) pre) → loopD (gVar 3) w_energy_by_triangles_1 E Y (intsD (pre.length : Int) rs.length) [some (MD ps tr), some (FQ fs), some (DQ (sQ (teQ ps fs) pre)), z] S
  | [], pre, z, e, _ => by
    rw [List.append_nil] at e
    subst e
    exact nx _
  | t :: rs, pre, z, e, O => by
    have hn : tr[pre.length]? = some t := by rw [← e, List.getElem?_append_right (Nat.le_refl _), Nat.sub_self]; rfl
    obtain ⟨i, sm, ov⟩ := ho t (List.mem_of_getElem? hn)
    have hp : pre.length < 24 := by
      have := congrArg List.length e
      rw [List.length_append, List.length_cons] at this
      omega
    rw [List.length_cons, ints_cons]
    simp only [xloop, g3, w_energy_by_triangles_1, xset, xcall, xcons, xnil, v0, v1, v2, v3]
    refine k_energy (ge_at hn i) hf sm ?_
    have bk : pre.length * K < 2 ^ 960 := by
      have q1 : pre.length * K ≤ 24 * K := Nat.mul_le_mul_right _ (by omega)
      have q2 : 24 * K < 2 ^ 5 * 2 ^ 950 := by omega
      exact Nat.lt_trans (Nat.lt_of_le_of_lt q1 q2) (by decide +kernel)
    refine k_plus ((O.sz nz (bD.mono (by decide)) bk).mono (by decide)) ((ov.sz (n := 960) nz (bD.mono (by decide)) (Nat.lt_trans hK (by decide +kernel))).mono (by decide)) ?_
    simp only [g2]
    have es : sQ (teQ ps fs) pre + teQ ps fs t = sQ (teQ ps fs) (pre ++ [t]) := by rw [sQ_app, sQ_one]
    show loopD _ _ _ _ _ [_, _, some (DQ (sQ (teQ ps fs) pre + teQ ps fs t)), _] _
    rw [es]
    have := te_loop (E := E) (Y := Y) nz bD hK hf hl ho nx rs (pre ++ [t]) (some (.int (pre.length : Int))) (by rw [List.append_assoc]; exact e) (by
      rw [sQ_app, sQ_one, List.length_append, List.length_singleton, Nat.succ_mul]
      exact O.add ov)
    rw [List.length_append, List.length_singleton] at this
    rw [show (pre.length : Int) + 1 = ((pre.length + 1 : Nat) : Int) by omega]
    exact this
theorem does_energy_by_triangles : Does c_energy_by_triangles w_energy_by_triangles N_energy_by_triangles 2 := by
  rintro ds S P X ⟨ps, tr, fs, B, K, rfl, hf, hl, ⟨nz, bD, hK⟩, ho, h⟩
  refine ⟨rfl, ?_⟩
  show w_energy_by_triangles_5 _ _ [some (MD ps tr), some (FQ fs), none, none] S
  have f1 : ∀ {r : PL.Env} {S : Sto} {P : PD} {X : PX}, wFld "Mesh" ["points", "triangles"] 1 (wVar 0) (some (MD ps tr) :: r) S P X = P (TL tr) S := ft fun Q => v0
  have el : ∀ {S : Sto} {P : PD}, oLen [TL tr] S P = P (.int (tr.length : Nat)) S := fun {S P} => by rw [show TL tr = .tup (tr.map TT) from rfl, len_tup, List.length_map]
  simp only [w_energy_by_triangles_5, xseq, w_energy_by_triangles_4, xset, xc, g2, w_energy_by_triangles_3, w_energy_by_triangles_2, xfor, xrngA, xcons, xnil, xn, f1, el]
  refine ⟨by omega, ?_⟩
  rw [Int.toNat_natCast, zero_Q]
  refine te_loop nz bD hK hf hl ho ?_ tr [] _ rfl (Ov.zero _ _)
  intro z
  simp only [w_energy_by_triangles_0, xret, v2]
  exact ⟨S, Sub.refl _, h⟩
/-! the law's sum over the triples -/
theorem bd_tr' {a b c : PT} {B : Nat} (hB : B ≤ 11300) (ha : a.1.natAbs ≤ B ∧ a.2.natAbs ≤ B) (hb : b.1.natAbs ≤ B ∧ b.2.natAbs ≤ B) (hc : c.1.natAbs ≤ B ∧ c.2.natAbs ≤ B) : Bd 31 (trn a b c) := by
  have s : ∀ {n : Int}, n.natAbs ≤ 22600 → Bd 15 n := fun h => Nat.lt_of_le_of_lt h (by decide)
  exact ((s (n := b.1 - a.1) (by omega)).mul (s (n := c.2 - a.2) (by omega))).sub ((s (n := b.2 - a.2) (by omega)).mul (s (n := c.1 - a.1) (by omega)))
theorem dn_pos {sp : List PT} : ∀ {tr : List TR}, (∀ t ∈ tr, triOk sp t) → 0 < dnT sp tr
  | [], _ => by unfold dnT; decide
  | t :: ts, h => Int.mul_pos (h t List.mem_cons_self).2 (dn_pos fun u hu => h u (List.mem_cons_of_mem _ hu))
theorem dn_bd {B : Nat} {sp : List PT} (hB : B ≤ 11300) (hb : bdP B sp) : ∀ {tr : List TR}, (∀ t ∈ tr, triOk sp t) → Bd (31 * tr.length + 1) (dnT sp tr)
  | [], _ => by unfold dnT Bd; decide
  | t :: ts, h => by
    obtain ⟨⟨t1, t2, t3⟩, _⟩ := h t List.mem_cons_self
    have := (bd_tr' hB (bd_at hb t1) (bd_at hb t2) (bd_at hb t3)).mul (dn_bd hB hb fun u hu => h u (List.mem_cons_of_mem _ hu))
    exact this.mono (by rw [List.length_cons]; omega)
theorem dn_split {sp : List PT} {t : TR} : ∀ {tr : List TR}, (∀ u ∈ tr, triOk sp u) → t ∈ tr → ∃ E : Int, 0 < E ∧ dnT sp tr = trn (spt sp t.1) (spt sp t.2.1) (spt sp t.2.2) * E
  | [], _, h => by cases h
  | u :: us, ho, h => by
    have hp := dn_pos fun v hv => ho v (List.mem_cons_of_mem _ hv)
    rcases List.mem_cons.mp h with rfl | h
    · exact ⟨dnT sp us, hp, rfl⟩
    · obtain ⟨E, h1, h2⟩ := dn_split (fun v hv => ho v (List.mem_cons_of_mem _ hv)) h
      refine ⟨trn (spt sp u.1) (spt sp u.2.1) (spt sp u.2.2) * E, Int.mul_pos (ho u List.mem_cons_self).2 h1, ?_⟩
      show trn _ _ _ * dnT sp us = _
      rw [h2]; grind
theorem le_abs {x y E : Int} (hx : 0 < x) (hE : 0 < E) (h : y = x * E) : E.natAbs ≤ y.natAbs := by
  rw [h, Int.natAbs_mul]
  exact Nat.le_mul_of_pos_left _ (by omega)
/-- over a doubled area, so over the product of all -/
theorem ov_tr {sp : List PT} {tr : List TR} {t : TR} {x : Int} {k : Nat} (ho : ∀ u ∈ tr, triOk sp u) (ht : t ∈ tr) (hx : x.natAbs ≤ k) : Ov (dnT sp tr) (k * (dnT sp tr).natAbs) (Rat.divInt x (trn (spt sp t.1) (spt sp t.2.1) (spt sp t.2.2))) := by
  obtain ⟨E, h1, h2⟩ := dn_split ho ht
  have l := le_abs (ho t ht).2 h1 h2
  have o : Ov (trn (spt sp t.1) (spt sp t.2.1) (spt sp t.2.2)) k (Rat.divInt x (trn (spt sp t.1) (spt sp t.2.1) (spt sp t.2.2))) := ⟨x, rfl, hx⟩
  have := o.up (E := E) (l := k * (dnT sp tr).natAbs) (by omega) (Nat.mul_le_mul_left _ l)
  rwa [← h2] at this
theorem dn_sz {B n m k l : Nat} {sp : List PT} {tr : List TR} {q : Rat} (hB : B ≤ 11300) (hm : m ≤ 24) (M : MO B n m sp tr) (hk : k ≤ 30) (hl : l ≤ 100) (h : Ov (2 * dnT sp tr) (k * (2 ^ l * (dnT sp tr).natAbs)) q) : Sz 900 q := by
  have p := dn_pos M.ok
  have tl := M.lt
  have b : Bd 745 (dnT sp tr) := (dn_bd hB M.bd M.ok).mono (by omega)
  have c2 : Bd 20 (2 : Int) := bd_s (by decide) (by decide)
  refine h.sz (by omega) ((c2.mul b).mono (by decide)) ?_
  have b' : (dnT sp tr).natAbs < 2 ^ 745 := b
  have q1 : 2 ^ l ≤ 2 ^ 100 := Nat.pow_le_pow_right (by decide) hl
  have q2 : k * (2 ^ l * (dnT sp tr).natAbs) ≤ 2 ^ 5 * (2 ^ 100 * 2 ^ 745) := Nat.mul_le_mul (by omega) (Nat.mul_le_mul q1 (by omega))
  exact Nat.lt_of_le_of_lt q2 (by decide +kernel)
def fdQ (L : Int) (ws : List Int) : List Rat := ws.map fun x => Rat.divInt x L
theorem ov_len (b : Int) (sp : List PT) : (ovP b sp).length = sp.length := by unfold ovP; rw [List.length_map]
theorem ov_at {b : Int} {sp : List PT} {k : Nat} (h : k < sp.length) : ptAt (ovP b sp) k = pnt (spt sp k) b := by
  unfold ptAt ovP
  rw [List.getD_eq_getElem?_getD, List.getElem?_map, getD_at (d := ((0 : Int), (0 : Int))) h]
  rfl
theorem fd_len (L : Int) (ws : List Int) : (fdQ L ws).length = ws.length := by unfold fdQ; rw [List.length_map]
theorem fd_at {L : Int} {ws : List Int} {k : Nat} (h : k < ws.length) : qAt (fdQ L ws) k = Rat.divInt (wzA ws k) L := by
  unfold qAt fdQ
  rw [List.getD_eq_getElem?_getD, List.getElem?_map, getD_at (d := (0 : Int)) h]
  rfl
theorem bd_pow {n : Int} {m k : Nat} (h : n.natAbs ≤ m) (l : m < 2 ^ k) : Bd k n := Nat.lt_of_le_of_lt h l
theorem ov_sz {b : Int} {sp : List PT} (hb : 1 ≤ b ∧ b ≤ 64) (B : bdP 2000 sp) : ∀ p ∈ ovP b sp, SzP 12 p := fun p hp => by
  obtain ⟨c, hc, rfl⟩ := List.mem_map.mp hp
  obtain ⟨b1, b2⟩ := B c hc
  exact szP_pnt ⟨bd_pow b1 (by decide), bd_pow b2 (by decide)⟩ (bd_pow (m := 64) (by omega) (by decide)) (by omega)
/-! the edges' sum beside the triples' -/
theorem cot_pnt {a b c : PT} {k : Int} (hk : 0 < k) (h : 0 < trn a b c) : cot (pnt a k) (pnt b k) (pnt c k) = Rat.divInt (ldot a b c) (trn a b c) := by
  unfold cot
  rw [dot_pnt a b c k hk, dar_pnt a b c k hk, trn_lcr]
  exact div_div _ _ _ hk (by omega)
theorem dir_id (a b c : PT) (u v w x y z : Int) : ldot c a b * ((v - u) * (y - x)) + ldot a b c * ((w - v) * (z - y)) + ldot b c a * ((u - w) * (x - z)) = eE2 a b c u v w x y z := by
  unfold ldot eE2 eR eU
  obtain ⟨a1, a2⟩ := a
  obtain ⟨b1, b2⟩ := b
  obtain ⟨c1, c2⟩ := c
  dsimp only
  grind
theorem dif_field {u v x y L N : Rat} (hL : L ≠ 0) (hN : N ≠ 0) : (v / L - u / L) * (y / N - x / N) = (v - u) * (y - x) / (L * N) := by grind
theorem dir_field {T Q X1 X2 X3 d1 d2 d3 EE : Rat} (hT : T ≠ 0) (hQ : Q ≠ 0) (h : X1 * d1 + X2 * d2 + X3 * d3 = EE) : X1 / T * (d1 / Q) + X2 / T * (d2 / Q) + X3 / T * (d3 / Q) = 2 * (EE / (2 * T)) / Q := by
  subst h; grind
theorem dir_law {a b c : PT} {u v w x y z k L N : Int} (hk : 0 < k) (hL : 0 < L) (hN : 0 < N) (hT : 0 < trn a b c) :
    cot (pnt c k) (pnt a k) (pnt b k) * ((Rat.divInt v L - Rat.divInt u L) * (Rat.divInt y N - Rat.divInt x N)) + cot (pnt a k) (pnt b k) (pnt c k) * ((Rat.divInt w L - Rat.divInt v L) * (Rat.divInt z N - Rat.divInt y N)) + cot (pnt b k) (pnt c k) (pnt a k) * ((Rat.divInt u L - Rat.divInt w L) * (Rat.divInt x N - Rat.divInt z N))
      = 2 * Rat.divInt (eE2 a b c u v w x y z) (2 * trn a b c) / ((L : Rat) * (N : Rat)) := by
  have t1 : trn c a b = trn a b c := by rw [← trn_rot c a b]
  have t2 : trn b c a = trn a b c := trn_rot a b c
  rw [cot_pnt hk (by rw [t1]; exact hT), cot_pnt hk hT, cot_pnt hk (by rw [t2]; exact hT), t1, t2]
  have nl := k_ne hL
  have nn := k_ne hN
  have nt := k_ne hT
  have e := congrArg (fun i : Int => (i : Rat)) (dir_id a b c u v w x y z)
  simp only [Rat.intCast_add, Rat.intCast_mul, Rat.intCast_sub] at e
  simp only [div_k, dif_field nl nn, Rat.intCast_mul]
  exact dir_field nt (fun h => by rcases Rat.mul_eq_zero.mp h with h | h <;> contradiction) e
theorem eg_law {sp : List PT} {ws wo : List Int} {k L N : Int} {t : TR} (hk : 0 < k) (hL : 0 < L) (hN : 0 < N) (lw : ws.length = sp.length) (lo : wo.length = sp.length) (ht : triOk sp t) : eG (ovP k sp) (dG (fdQ L ws) (fdQ N wo)) t = 2 * eQ2 sp ws wo t / ((L : Rat) * (N : Rat)) := by
  obtain ⟨⟨t1, t2, t3⟩, t4⟩ := ht
  unfold eG dG
  rw [ov_at t1, ov_at t2, ov_at t3, fd_at (by omega), fd_at (by omega), fd_at (by omega), fd_at (by omega), fd_at (by omega), fd_at (by omega)]
  exact dir_law hk hL hN t4
theorem eG_rot {ps : List (Rat × Rat)} {g : Nat → Nat → Rat} {t u : TR} (r : rotT t u) : eG ps g t = eG ps g u := by
  cases r with
  | zero => rfl
  | one => unfold eG; dsimp only; grind
  | two => unfold eG; dsimp only; grind
theorem rotL_sum {f : TR → Rat} (hf : ∀ t u, rotT t u → f t = f u) {ts us : List TR} (h : RotL ts us) : sQ f us = sQ f ts := by
  induction h with
  | nil => rfl
  | cons a _ ih => simp only [sQ, ih, hf _ _ a]
theorem rot_sum {f : TR → Rat} (hf : ∀ t u, rotT t u → f t = f u) {tr tr' : List TR} (h : RotP tr tr') : sQ f tr' = sQ f tr := by
  obtain ⟨us, h1, h2⟩ := h
  rw [← sQ_perm h2, rotL_sum hf h1]
/-- by the edges, all told -/
theorem mix_law {sp : List PT} {tr tr' : List TR} {ws wo : List Int} {k L N : Int} (hk : 0 < k) (hL : 0 < L) (hN : 0 < N) (lw : ws.length = sp.length) (lo : wo.length = sp.length) (ho : ∀ t ∈ tr, triOk sp t) (R : RotP tr tr') :
    sQ (eG (ovP k sp) (dG (fdQ L ws) (fdQ N wo))) tr' / 2 = sQ (eQ2 sp ws wo) tr / ((L : Rat) * (N : Rat)) := by
  rw [rot_sum (fun t u r => eG_rot r) R, sQ_congr fun t ht => eg_law hk hL hN lw lo (ho t ht), sQ_div, sQ_mul]
  have nl := k_ne hL
  have nn := k_ne hN
  generalize sQ _ tr = q
  generalize (L : Rat) = l at *
  generalize (N : Rat) = n at *
  grind
theorem energy_law {sp : List PT} {tr tr' : List TR} {ws : List Int} {k L : Int} (hk : 0 < k) (hL : 0 < L) (lw : ws.length = sp.length) (ho : ∀ t ∈ tr, triOk sp t) (R : RotP tr tr') :
    sQ (eG (ovP k sp) (dG (fdQ L ws) (fdQ L ws))) tr' / 4 = sQ (eQ2 sp ws ws) tr / ((2 * L * L : Int) : Rat) := by
  have := mix_law hk hL hL lw lw ho R
  have nl := k_ne hL
  rw [Rat.intCast_mul, Rat.intCast_mul]
  show _ = _ / (2 * (L : Rat) * (L : Rat))
  generalize sQ _ tr' = p at *
  generalize sQ _ tr = q at *
  generalize (L : Rat) = l at *
  grind
/-! sizes of the mesh -/
theorem bd_dot {a b c : PT} {B : Nat} (hB : B ≤ 11300) (ha : a.1.natAbs ≤ B ∧ a.2.natAbs ≤ B) (hb : b.1.natAbs ≤ B ∧ b.2.natAbs ≤ B) (hc : c.1.natAbs ≤ B ∧ c.2.natAbs ≤ B) : (ldot a b c).natAbs ≤ 2 ^ 31 := by
  have s : ∀ {n : Int}, n.natAbs ≤ 22600 → Bd 15 n := fun h => Nat.lt_of_le_of_lt h (by decide)
  have q : Bd 31 (ldot a b c) := ((s (n := b.1 - a.1) (by omega)).mul (s (n := c.1 - a.1) (by omega))).add ((s (n := b.2 - a.2) (by omega)).mul (s (n := c.2 - a.2) (by omega)))
  exact Nat.le_of_lt q
theorem ov_sz' {b : Int} {B : Nat} {sp : List PT} (hB : B ≤ 11300) (hb : 1 ≤ b ∧ b ≤ 64) (H : bdP B sp) : ∀ p ∈ ovP b sp, SzP 20 p := fun p hp => by
  obtain ⟨c, hc, rfl⟩ := List.mem_map.mp hp
  obtain ⟨b1, b2⟩ := H c hc
  exact szP_pnt ⟨bd_pow (m := 11300) (by omega) (by decide), bd_pow (m := 11300) (by omega) (by decide)⟩ (bd_pow (m := 64) (by omega) (by decide)) (by omega)
theorem mg_of {B n m : Nat} {sp : List PT} {tr : List TR} {b : Int} (hB : B ≤ 11300) (hn : n ≤ 40) (hm : m ≤ 24) (hb : 1 ≤ b ∧ b ≤ 64) (M : MO B n m sp tr) : MG (dnT sp tr) (2 ^ 31 * (dnT sp tr).natAbs) (ovP b sp) tr := by
  have p := dn_pos M.ok
  have tl := M.lt
  have bd : Bd 745 (dnT sp tr) := (dn_bd hB M.bd M.ok).mono (by omega)
  refine ⟨fun t ht => ?_, ov_sz' hB hb M.bd, by omega, by rw [ov_len]; have := M.ls; omega, by omega, bd.mono (by decide), ?_⟩
  · obtain ⟨⟨t1, t2, t3⟩, t4⟩ := M.ok t ht
    have B1 := bd_at M.bd t1
    have B2 := bd_at M.bd t2
    have B3 := bd_at M.bd t3
    have r1 : trn (spt sp t.2.1) (spt sp t.2.2) (spt sp t.1) = trn (spt sp t.1) (spt sp t.2.1) (spt sp t.2.2) := trn_rot _ _ _
    have r2 : trn (spt sp t.2.2) (spt sp t.1) (spt sp t.2.1) = trn (spt sp t.1) (spt sp t.2.1) (spt sp t.2.2) := (trn_rot _ _ _).symm
    have hk : 0 < b := by omega
    refine ⟨by unfold triIn; rw [ov_len]; exact ⟨t1, t2, t3⟩, ?_, ?_, ?_, ?_, ?_, ?_⟩
    · rw [ov_at t1, ov_at t2, ov_at t3]; exact dar_nz hk t4
    · rw [ov_at t1, ov_at t2, ov_at t3]; exact dar_nz hk (by rw [r1]; exact t4)
    · rw [ov_at t1, ov_at t2, ov_at t3]; exact dar_nz hk (by rw [r2]; exact t4)
    · rw [ov_at t1, ov_at t2, ov_at t3, cot_pnt hk t4]; exact ov_tr M.ok ht (bd_dot hB B1 B2 B3)
    · rw [ov_at t1, ov_at t2, ov_at t3, cot_pnt hk (by rw [r1]; exact t4), r1]; exact ov_tr M.ok ht (bd_dot hB B2 B3 B1)
    · rw [ov_at t1, ov_at t2, ov_at t3, cot_pnt hk (by rw [r2]; exact t4), r2]; exact ov_tr M.ok ht (bd_dot hB B3 B1 B2)
  · have b' : (dnT sp tr).natAbs < 2 ^ 745 := bd
    have q : 2 ^ 31 * (dnT sp tr).natAbs ≤ 2 ^ 31 * 2 ^ 745 := Nat.mul_le_mul_left _ (by omega)
    exact Nat.lt_of_le_of_lt q (by decide +kernel)
theorem eq_rot {sp : List PT} {ws wo : List Int} {t u : TR} (lw : ws.length = sp.length) (lo : wo.length = sp.length) (ht : triOk sp t) (r : rotT t u) : eQ2 sp ws wo t = eQ2 sp ws wo u := by
  have h1 := eg_law (k := 1) (L := 1) (N := 1) (by decide) (by decide) (by decide) lw lo ht
  have h2 := eg_law (k := 1) (L := 1) (N := 1) (by decide) (by decide) (by decide) lw lo (rot_ok ht r)
  rw [eG_rot r, h2] at h1
  have e : ((1 : Int) : Rat) * ((1 : Int) : Rat) = 1 := by decide +kernel
  rw [e] at h1
  generalize eQ2 sp ws wo t = p at *
  generalize eQ2 sp ws wo u = q at *
  grind
theorem rotL_sum' {f : TR → Rat} {ts us : List TR} (h : RotL ts us) (hf : ∀ t ∈ ts, ∀ u, rotT t u → f t = f u) : sQ f us = sQ f ts := by
  induction h with
  | nil => rfl
  | cons a _ ih => simp only [sQ, ih fun t ht => hf t (List.mem_cons_of_mem _ ht), hf _ List.mem_cons_self _ a]
theorem te_law {sp : List PT} {ws : List Int} {k L : Int} {t : TR} (hk : 0 < k) (hL : 0 < L) (lw : ws.length = sp.length) (ht : triOk sp t) : teQ (ovP k sp) (fdQ L ws) t = eQ2 sp ws ws t / ((2 * L * L : Int) : Rat) := by
  obtain ⟨⟨t1, t2, t3⟩, t4⟩ := ht
  unfold teQ sR sU
  rw [ov_at t1, ov_at t2, ov_at t3, fd_at (by omega), fd_at (by omega), fd_at (by omega)]
  exact (en_law hk hL t4).symm
theorem tri_law {sp : List PT} {tr tr' : List TR} {ws : List Int} {k L : Int} (hk : 0 < k) (hL : 0 < L) (lw : ws.length = sp.length) (ho : ∀ t ∈ tr, triOk sp t) (R : RotP tr tr') : sQ (teQ (ovP k sp) (fdQ L ws)) tr' = sQ (eQ2 sp ws ws) tr / ((2 * L * L : Int) : Rat) := by
  obtain ⟨us, h1, h2⟩ := R
  rw [← sQ_perm h2, sQ_congr (g := fun t => eQ2 sp ws ws t / ((2 * L * L : Int) : Rat)) fun t ht => te_law hk hL lw (h1.ok ho t ht), sQ_div, rotL_sum' h1 fun t ht u r => eq_rot lw lw (ho t ht) r]
/-! edges -/
theorem xsortset {u : WE} {r : PL.Env} {S : Sto} {P : PD} {X : PX} : wSortSet u r S P X = u r S (fun d S1 => ∃ (ks : List (List Int)) (n : Nat) (B : Int), lstOf S1 d = some (ks.map keyD) ∧ ks.length < 64 ∧ 1 ≤ n ∧ (∀ k ∈ ks, k.length = n ∧ ∀ x ∈ k, 0 ≤ x ∧ x < B) ∧
  ∀ ks' : List (List Int), ks'.Nodup → (∀ k, k ∈ ks' ↔ k ∈ ks) → P (.lst (ks'.map keyD)) S1) X := id rfl
def edL (t : TR) : List (Nat × Nat) := [eKey t.1 t.2.1, eKey t.2.1 t.2.2, eKey t.1 t.2.2]
theorem key_DE (e : Nat × Nat) : keyD (keyL e) = DE e := rfl
theorem mm_DE (i j : Nat) : D.tup [.int (min (i : Int) (j : Int)), .int (max (i : Int) (j : Int))] = DE (eKey i j) := key_mm i j
theorem eKey_comm (i j : Nat) : eKey i j = eKey j i := by unfold eKey; rw [Nat.min_comm, Nat.max_comm]
theorem edg_loop {E : EndD} {Y : XS} {S : Sto} {z0 : Option D} {tr : List TR} (hl : 3 * tr.length < 64) (nx : ∀ a b c, E.nx [z0, some (.lst ((tr.flatMap edL).map DE)), a, b, c] S) :
    ∀ (ts pre : List TR) (a b c : Option D), pre ++ ts = tr → loopD (gTupD 3 (gConsD (gVar 2) (gConsD (gVar 3) (gConsD (gVar 4) gNilD)))) w__law_edges_1 E Y (ts.map TD) [z0, some (.lst ((pre.flatMap edL).map DE)), a, b, c] S
  | [], pre, a, b, c, e => by
    rw [List.append_nil] at e
    subst e
    exact nx a b c
  | t :: ts, pre, a, b, c, e => by
    have hp : pre.length < tr.length := by
      have := congrArg List.length e
      rw [List.length_append, List.length_cons] at this
      omega
    have fl : ∀ l : List TR, (l.flatMap edL).length = 3 * l.length := fun l => by
      induction l with
      | nil => rfl
      | cons x xs ih => rw [List.flatMap_cons, List.length_append, ih, List.length_cons]; show 3 + _ = _; omega
    rw [List.map_cons, xloop]
    show gTupD 3 _ (.lst [.int (t.1 : Int), .int (t.2.1 : Int), .int (t.2.2 : Int)]) _ _ _ _
    rw [g3l]
    simp only [List.set_cons_succ, List.set_cons_zero, w__law_edges_1, xset, x2, xlst, xtup, xn, xcons, xnil, v1, v2, v3, v4, omin2, omax2]
    refine ⟨two_line, two_line, two_line, tri3, ?_⟩
    rw [mm_DE, mm_DE, mm_DE, add_lst]
    refine ⟨by rw [List.length_map, fl]; exact le_line (by simp only [List.length_cons, List.length_nil]; omega), ?_⟩
    have em : (pre.flatMap edL).map DE ++ [DE (eKey t.1 t.2.1), DE (eKey t.2.1 t.2.2), DE (eKey t.1 t.2.2)] = ((pre ++ [t]).flatMap edL).map DE := by
      rw [List.flatMap_append, List.map_append]; rfl
    rw [em]
    simp only [g1]
    exact edg_loop hl nx ts (pre ++ [t]) _ _ _ (by rw [List.append_assoc]; exact e)
theorem back_keys {xs : List (Nat × Nat)} : ∀ ks : List (List Int), (∀ k ∈ ks, k ∈ xs.map keyL) → ∃ es : List (Nat × Nat), ks = es.map keyL
  | [], _ => ⟨[], rfl⟩
  | k :: ks, h => by
    obtain ⟨es, e⟩ := back_keys ks fun k' hk => h k' (List.mem_cons_of_mem _ hk)
    obtain ⟨x, _, e2⟩ := List.mem_map.mp (h k List.mem_cons_self)
    exact ⟨x :: es, by rw [e, ← e2]; rfl⟩
theorem does__law_edges : Does c__law_edges w__law_edges N__law_edges 1 := by
  rintro ds S P X ⟨tr, n, rfl, hn, hin, hl, h⟩
  refine ⟨rfl, ?_⟩
  show w__law_edges_5 _ _ [some (RT tr), none, none, none, none] S
  simp only [w__law_edges_5, xseq, w__law_edges_4, xset, xlst, xnil]
  refine ⟨le_line (by simp), ?_⟩
  simp only [g1, w__law_edges_3, xseq, w__law_edges_2, xfor, xitems, v0]
  show loopD _ _ _ _ (tr.map TD) [some (RT tr), some (.lst ((([] : List TR).flatMap edL).map DE)), none, none, none] _
  refine edg_loop hl ?_ tr [] _ _ _ rfl
  intro a b c
  have fl : (tr.flatMap edL).length = 3 * tr.length := by
    clear hin hl h
    induction tr with
    | nil => rfl
    | cons x xs ih => rw [List.flatMap_cons, List.length_append, ih, List.length_cons]; show 3 + _ = _; omega
  simp only [w__law_edges_0, xret, xsortset, v1]
  refine ⟨(tr.flatMap edL).map keyL, 2, 1000, by rw [List.map_map]; rfl, by rw [List.length_map, fl]; exact hl, by decide, fun k hk => ?_, fun ks' nd mem => ?_⟩
  · obtain ⟨e, he, rfl⟩ := List.mem_map.mp hk
    obtain ⟨t, ht, he⟩ := List.mem_flatMap.mp he
    obtain ⟨t1, t2, t3⟩ := hin t ht
    refine ⟨rfl, fun x hx => ?_⟩
    have e2 : e.1 < n ∧ e.2 < n := by
      unfold edL at he
      simp only [List.mem_cons, List.not_mem_nil, or_false] at he
      unfold eKey at he
      rcases he with rfl | rfl | rfl <;> dsimp only <;> omega
    unfold keyL at hx
    simp only [List.mem_cons, List.not_mem_nil, or_false] at hx
    omega
  · obtain ⟨es, rfl⟩ := back_keys ks' fun k hk => (mem k).mp hk
    have em : (es.map keyL).map keyD = es.map DE := by rw [List.map_map]; rfl
    rw [em]
    refine ⟨S, Sub.refl _, h es (List.Pairwise.of_map keyL (fun a b z e => z (by rw [e])) nd) fun e => ?_⟩
    have m1 : e ∈ es ↔ keyL e ∈ es.map keyL := ⟨fun h => List.mem_map_of_mem h, fun h => by
      obtain ⟨x, hx, e2⟩ := List.mem_map.mp h
      rwa [← keyL_inj.mp e2]⟩
    have m2 : keyL e ∈ (tr.flatMap edL).map keyL ↔ e ∈ tr.flatMap edL := ⟨fun h => by
      obtain ⟨x, hx, e2⟩ := List.mem_map.mp h
      rwa [← keyL_inj.mp e2], fun h => List.mem_map_of_mem h⟩
    rw [m1, mem, m2, List.mem_flatMap]
    constructor
    · rintro ⟨t, ht, he⟩
      refine ⟨t, ht, ?_⟩
      unfold edL at he
      simp only [List.mem_cons, List.not_mem_nil, or_false] at he
      rcases he with rfl | rfl | rfl
      · exact .inl rfl
      · exact .inr (.inl rfl)
      · exact .inr (.inr (eKey_comm _ _))
    · rintro ⟨t, ht, he⟩
      refine ⟨t, ht, ?_⟩
      unfold edL
      simp only [List.mem_cons, List.not_mem_nil, or_false]
      rcases he with rfl | rfl | rfl
      · exact .inl rfl
      · exact .inr (.inl rfl)
      · exact .inr (.inr (eKey_comm _ _))
/-! points within -/
theorem lcq_run {G : WG} {t : WB} {w : WE} {vs : List Nat} {env : PL.Env} {p : Addr} {P : PD} {S : Sto} {α : Type} (g f : α → D) (pr : α → Bool) (hp : S p = none) : ∀ (xs ys : List α), ys.length + xs.length ≤ sizeLine →
    (∀ x ∈ xs, ∀ (S1 : Sto) (R : Bool → PL.Env → Sto → Prop), (∀ e1, (∀ Q : PD, Q (f x) S1 → w e1 S1 Q (fun _ _ => False)) → R (pr x) e1 S1) → G (g x) (wipeD env vs) S1 (fun e1 S2 => t e1 S2 (fun b S3 => R b e1 S3) (fun _ _ => False)) (fun _ _ => False)) →
    P (.lst ((ys ++ xs.filter pr).map f)) S → lcD G t w vs env p (lcEnd P p) (xs.map g) (sput S p (.lst (ys.map f)))
  | [], ys, _, _, h => by
    refine lcEnd_i sput_at ?_
    rw [sdel_put hp]
    rwa [List.filter_nil, List.append_nil] at h
  | x :: xs, ys, hl, hs, h => by
    rw [List.length_cons] at hl
    refine hs x List.mem_cons_self _ (fun b e1 S2 => if b = true then w e1 S2 (fun y S3 => lcPut p y _ S3) (fun _ _ => False) else lcD G t w vs env p (lcEnd P p) (xs.map g) S2) fun e1 hw => ?_
    by_cases c : pr x = true
    · rw [if_pos c]
      refine hw _ ?_
      show lcPut p (f x) _ _
      unfold lcPut
      rw [sput_at]
      refine ⟨by rw [List.length_map]; omega, ?_⟩
      rw [sput_sput]
      have e : ys.map f ++ [f x] = (ys ++ [x]).map f := by simp
      rw [e]
      rw [List.filter_cons_of_pos c] at h
      exact lcq_run g f pr hp xs (ys ++ [x]) (by rw [List.length_append, List.length_singleton]; omega) (fun d' hd => hs d' (List.mem_cons_of_mem _ hd)) (by rw [List.append_assoc]; exact h)
    · rw [if_neg c]
      rw [List.filter_cons_of_neg c] at h
      exact lcq_run g f pr hp xs ys (by omega) (fun d' hd => hs d' (List.mem_cons_of_mem _ hd)) h
/-- a comprehension that keeps what is told, and maps it -/
theorem lcQ_go {wi : PL.WI} {G : WG} {t : WB} {w : WE} {vs : List Nat} {env : PL.Env} {S : Sto} {P : PD} {X : PX} {α : Type} (g f : α → D) (pr : α → Bool) (xs : List α) (hi : ∀ Q : List D → Sto → Prop, Q (xs.map g) S → wi env S Q X) (hl : xs.length ≤ sizeLine)
    (hs : ∀ x ∈ xs, ∀ (S1 : Sto) (R : Bool → PL.Env → Sto → Prop), (∀ e1, (∀ Q : PD, Q (f x) S1 → w e1 S1 Q (fun _ _ => False)) → R (pr x) e1 S1) → G (g x) (wipeD env vs) S1 (fun e1 S2 => t e1 S2 (fun b S3 => R b e1 S3) (fun _ _ => False)) (fun _ _ => False))
    (h : P (.lst ((xs.filter pr).map f)) S) : wLc wi G t w vs env S P X :=
  hi _ fun p hp => lcq_run g f pr hp xs [] (by simpa using hl) hs (by rw [List.nil_append]; exact h)
theorem oin2 {v i j : Int} {S : Sto} {P : PD} (h : P (.bl (decide (i = v ∨ j = v))) S) : oIn (.int v) (.tup [.int i, .int j]) S P := by
  refine ⟨_, rfl, ok_int v, ok_di i j, ?_⟩
  have e : ((toPL [D.int i, D.int j]).any fun z => PyData.eqv z (toP (res S (.int v)))) = decide (i = v ∨ j = v) := by
    show ((toPL [D.int i, D.int j]).any fun z => PyData.eqv z (.int v)) = _
    simp only [toPL, toP, List.any_cons, List.any_nil, Bool.or_false, eqv_int]
    rw [Bool.eq_iff_iff]
    simp
  rw [e]; exact h
theorem key_mem {tr : List TR} {i j : Nat} {t : TR} (ht : t ∈ tr) (h : hasE i j t = true) : ∃ u ∈ tr, isEdge u (eKey i j) := by
  refine ⟨t, ht, ?_⟩
  unfold hasE at h
  simp only [Bool.or_eq_true, Bool.and_eq_true, beq_iff_eq] at h
  unfold isEdge
  rcases h with (⟨rfl, rfl⟩ | ⟨rfl, rfl⟩) | ⟨rfl, rfl⟩
  · exact .inl rfl
  · exact .inr (.inl rfl)
  · exact .inr (.inr rfl)
theorem eq_nil {ns : List Int} {S : Sto} {P : PD} (hl : ns.length ≤ 100) (hb : ∀ x ∈ ns, Bd 20 x) (h : P (.bl (decide (ns = []))) S) : oEq (.lst (ns.map D.int)) (.lst []) S P := by
  have a : okD (.lst (ns.map D.int)) = true := ok_ints ns
  have b : okD (.lst []) = true := ok_ints []
  refine ⟨a, b, ?_⟩
  have e := eqv_lists ns []
  show P (.bl (PyData.eqv (toP (.lst (ns.map D.int))) (toP (.lst (([] : List Int).map D.int))))) S
  rw [e]; exact h
theorem xlc {wi : PL.WI} {G : WG} {t : WB} {w : WE} {vs : List Nat} {r : PL.Env} {S : Sto} {P : PD} {X : PX} : wLc wi G t w vs r S P X = wi r S (fun ds S1 => ∀ p, S1 p = none → lcD G t w vs r p (lcEnd P p) ds (sput S1 p (.lst []))) X := id rfl
def brd (tr : List TR) (e : Nat × Nat) : Bool := !(tr.any (hasE e.1 e.2)) || !(tr.any (hasE e.2 e.1))
theorem any_no {tr : List TR} {i j : Nat} (h : ∀ t ∈ tr, hasE i j t = false) : tr.any (hasE i j) = false := by
  rw [List.any_eq_false]
  exact fun t ht => by rw [h t ht]; decide
theorem any_yes {tr : List TR} {i j k : Nat} {t : TR} (ht : t ∈ tr) (r : rotT (i, j, k) t) : tr.any (hasE i j) = true := List.any_eq_true.mpr ⟨t, ht, rot_has r⟩
theorem inn_of {tr : List TR} {v : Nat} {es : List (Nat × Nat)} (mem : ∀ e, e ∈ es ↔ ∃ t ∈ tr, isEdge t e) (h : (es.filter fun e => decide ((e.1 : Int) = v ∨ (e.2 : Int) = v)).filter (brd tr) = []) : InnP tr v := by
  intro t ht i j hv he
  have m := (mem (eKey i j)).mpr (key_mem ht he)
  have m2 : eKey i j ∈ es.filter fun e => decide ((e.1 : Int) = v ∨ (e.2 : Int) = v) := List.mem_filter.mpr ⟨m, decide_eq_true (by unfold eKey; dsimp only; omega)⟩
  have nb : brd tr (eKey i j) = false := by
    rw [Bool.eq_false_iff]
    intro b
    have := List.mem_filter.mpr ⟨m2, b⟩
    rw [h] at this
    cases this
  unfold brd at nb
  simp only [Bool.or_eq_false_iff, Bool.not_eq_false'] at nb
  have both : tr.any (hasE j i) = true := by
    unfold eKey at nb
    dsimp only at nb
    by_cases c : i ≤ j
    · rw [Nat.min_eq_left c, Nat.max_eq_right c] at nb; exact nb.2
    · rw [Nat.min_eq_right (by omega), Nat.max_eq_left (by omega)] at nb; exact nb.1
  obtain ⟨u, hu, e⟩ := List.any_eq_true.mp both
  exact ⟨u, hu, e⟩
theorem sub_edL {tr : List TR} {es : List (Nat × Nat)} {m : Nat} (hm : tr.length ≤ m) (nd : es.Nodup) (mem : ∀ e, e ∈ es ↔ ∃ t ∈ tr, isEdge t e) : es.length ≤ 3 * m := by
  have sub : es ⊆ tr.flatMap edL := fun e he => by
    obtain ⟨t, ht, h⟩ := (mem e).mp he
    refine List.mem_flatMap.mpr ⟨t, ht, ?_⟩
    unfold edL
    simp only [List.mem_cons, List.not_mem_nil, or_false]
    rcases h with rfl | rfl | rfl
    · exact .inl rfl
    · exact .inr (.inl rfl)
    · exact .inr (.inr (eKey_comm _ _))
  have fl : ∀ l : List TR, (l.flatMap edL).length = 3 * l.length := fun l => by
    induction l with
    | nil => rfl
    | cons x xs ih => rw [List.flatMap_cons, List.length_append, ih, List.length_cons]; show 3 + _ = _; omega
  have := List.Nodup.length_le_of_subset nd sub
  rw [fl] at this
  omega
abbrev kD (k : Nat) : D := .int (k : Int)
section
variable {E : EndD} {Y : XS} {S0 : Sto} {l : Addr} {n m : Nat} {sp : List PT} {tr : List TR}
theorem in_body {v : Nat} {ks : List Nat} {z4 z5 z6 z7 z8 : Option D} (hn : n ≤ 40) (hm : m ≤ 18) (M : MO 2000 n m sp tr) (hv' : v < sp.length) (hk : ks.length ≤ v)
    (nx : ∀ ks' z4 z5 z6 z7 z8, (ks' = ks ∨ (ks' = ks ++ [v] ∧ InnP tr v)) → E.nx [some (RS sp), some (RT tr), some (.ref l), some (.int (v : Int)), z4, z5, z6, z7, z8] (sput S0 l (.lst (ks'.map kD)))) :
    w__law_inner_7 E Y [some (RS sp), some (RT tr), some (.ref l), some (.int (v : Int)), z4, z5, z6, z7, z8] (sput S0 l (.lst (ks.map kD))) := by
  have tl := M.lt
  have sl := M.ls
  simp only [w__law_inner_7, xseq, w__law_inner_6, xset, xlc, xitems, xcall, xcons, xnil, v1]
  refine ⟨tr, sp.length, rfl, by omega, fun t ht => (M.ok t ht).1, by omega, fun es nd mem => ?_⟩
  have el : es.length ≤ 3 * 18 := sub_edL (by omega) nd mem
  show ∀ p, _ → lcD _ _ _ _ _ p _ (es.map DE) _
  intro p hp
  refine lcp_run DE (fun e => decide ((e.1 : Int) = v ∨ (e.2 : Int) = v)) hp es [] (by rw [List.length_nil]; exact le_line (by omega)) (fun e he S1 R hR => ?_) ?_
  · have w6 : ∀ {a0 a1 a2 a3 a4 a5 a6 a7 a8 : Option D}, wipeD [a0, a1, a2, a3, a4, a5, a6, a7, a8] [6] = [a0, a1, a2, a3, a4, a5, none, a7, a8] := rfl
    simp only [w6, g6, xbl, x2, v3, v6]
    exact oin2 (hR _ fun Q hq => by simp only [v6]; exact hq)
  rw [List.nil_append]
  obtain ⟨fs, hfs⟩ : ∃ fs, es.filter (fun e => decide ((e.1 : Int) = v ∨ (e.2 : Int) = v)) = fs := ⟨_, rfl⟩
  have fl : fs.length ≤ 3 * 18 := by rw [← hfs]; exact Nat.le_trans (List.length_filter_le _ _) el
  rw [hfs]
  simp only [g4, w__law_inner_5, xseq, w__law_inner_4, xset]
  refine lcQ_go DE (fun _ => .int 1) (brd tr) fs (fun Q hq => ?_) (le_line (by omega)) (fun e he S1 R hR => ?_) ?_
  · simp only [xitems, v4]
    exact hq
  · have w78 : ∀ {a0 a1 a2 a3 a4 a5 a6 a7 a8 : Option D}, wipeD [a0, a1, a2, a3, a4, a5, a6, a7, a8] [7, 8] = [a0, a1, a2, a3, a4, a5, a6, none, none] := rfl
    simp only [w78]
    show gTupD 2 _ (.tup [.int (e.1 : Int), .int (e.2 : Int)]) _ _ _ _
    rw [g2p]
    simp only [List.set_cons_succ, List.set_cons_zero, xorB, xbl, x2, xcall, xcons, xnil, v1, PL.v7, PL.v8, xc, oisN]
    refine k_third fun d hd => ?_
    rcases hd with ⟨rfl, hno⟩ | ⟨k, t, ht, r, rfl⟩
    · have b : brd tr e = true := by unfold brd; rw [any_no hno]; rfl
      rw [b] at hR
      simp only [oisN, PL.isNon, if_true]
      exact hR _ fun Q hq => hq
    · simp only [oisN, PL.isNon, Bool.false_eq_true, if_false]
      refine k_third fun d hd => ?_
      rcases hd with ⟨rfl, hno⟩ | ⟨k2, t2, ht2, r2, rfl⟩
      · have b : brd tr e = true := by unfold brd; rw [any_no hno]; simp
        rw [b] at hR
        simp only [oisN, PL.isNon]
        exact hR _ fun Q hq => hq
      · have b : brd tr e = false := by unfold brd; rw [any_yes ht r, any_yes ht2 r2]; rfl
        rw [b] at hR
        simp only [oisN, PL.isNon]
        exact hR _ fun Q hq => hq
  have e1 : ((fs.filter (brd tr)).map fun _ => D.int 1) = (((fs.filter (brd tr)).map fun _ => (1 : Int))).map D.int := by rw [List.map_map]; rfl
  rw [e1]
  have fl2 := List.length_filter_le (brd tr) fs
  simp only [PL.g5, w__law_inner_3, xsif, xbl, x2, xlst, xnil, PL.v5]
  refine ⟨le_line (by simp), eq_nil (by rw [List.length_map]; omega) (fun x hx => by
    obtain ⟨_, _, rfl⟩ := List.mem_map.mp hx
    exact bd_s (by decide) (by decide)) ?_⟩
  by_cases c : fs.filter (brd tr) = []
  · have d : ((fs.filter (brd tr)).map fun _ => (1 : Int)) = [] := by rw [c]; rfl
    rw [decide_eq_true d]
    simp only [if_true, w__law_inner_2, xexpr, xapp, v2, v3, isl sput_at, true_and]
    rw [app_at sput_at]
    refine ⟨by rw [List.length_map]; exact Nat.lt_of_lt_of_le (show ks.length < 1000 by omega) (le_line (Nat.le_refl _)), ?_⟩
    rw [sput_sput]
    have em : ks.map kD ++ [.int (v : Int)] = (ks ++ [v]).map kD := by rw [List.map_append]; rfl
    rw [em]
    exact nx _ _ _ _ _ _ (.inr ⟨rfl, inn_of mem (by rw [hfs]; exact c)⟩)
  · have d : ((fs.filter (brd tr)).map fun _ => (1 : Int)) ≠ [] := fun z => c (List.map_eq_nil_iff.mp z)
    rw [decide_eq_false d]
    simp only [Bool.false_eq_true, if_false, xskip]
    exact nx _ _ _ _ _ _ (.inl rfl)
theorem in_loop (hn : n ≤ 40) (hm : m ≤ 18) (M : MO 2000 n m sp tr) (nx : ∀ (ks : List Nat) z3 z4 z5 z6 z7 z8, (∀ v ∈ ks, v < sp.length ∧ InnP tr v) → ks.length ≤ sp.length → E.nx [some (RS sp), some (RT tr), some (.ref l), z3, z4, z5, z6, z7, z8] (sput S0 l (.lst (ks.map kD)))) :
    ∀ (c v : Nat) (ks : List Nat) (z3 z4 z5 z6 z7 z8 : Option D), v + c = sp.length → (∀ v ∈ ks, v < sp.length ∧ InnP tr v) → ks.length ≤ v →
      loopD (gVar 3) w__law_inner_7 E Y (intsD (v : Int) c) [some (RS sp), some (RT tr), some (.ref l), z3, z4, z5, z6, z7, z8] (sput S0 l (.lst (ks.map kD)))
  | 0, v, ks, z3, z4, z5, z6, z7, z8, e, hk, hl => nx ks _ _ _ _ _ _ hk (by omega)
  | c + 1, v, ks, z3, z4, z5, z6, z7, z8, e, hk, hl => by
    rw [ints_cons]
    simp only [xloop, g3]
    refine in_body hn hm M (by omega) hl fun ks' z4 z5 z6 z7 z8 h => ?_
    rw [show (v : Int) + 1 = ((v + 1 : Nat) : Int) by omega]
    rcases h with rfl | ⟨rfl, hi⟩
    · exact in_loop hn hm M nx c (v + 1) ks' _ _ _ _ _ _ (by omega) hk (by omega)
    · refine in_loop hn hm M nx c (v + 1) _ _ _ _ _ _ _ (by omega) (fun w hw => ?_) (by rw [List.length_append, List.length_singleton]; omega)
      rcases List.mem_append.mp hw with hw | hw
      · exact hk w hw
      · rw [List.mem_singleton] at hw
        rw [hw]
        exact ⟨by omega, hi⟩
end
theorem does__law_inner : Does c__law_inner w__law_inner N__law_inner 2 := by
  rintro ds S P X ⟨sp, tr, n, m, rfl, ⟨hn, hm⟩, M, h⟩
  refine ⟨rfl, ?_⟩
  show w__law_inner_11 _ _ [some (RS sp), some (RT tr), none, none, none, none, none, none, none] S
  have sl := M.ls
  have es : ∀ {S : Sto} {P : PD}, oLen [RS sp] S P = P (.int (sp.length : Nat)) S := fun {S P} => by rw [show RS sp = .lst (sp.map DI) from rfl, len_lst, List.length_map]
  simp only [w__law_inner_11, xseq, w__law_inner_10, xset, xnew, xnil]
  refine ⟨le_line (by simp), fun l hl => ?_⟩
  simp only [g2, w__law_inner_9, xseq, w__law_inner_8, xfor, xrngA, xcons, xnil, xn, v0, es]
  refine ⟨by omega, ?_⟩
  rw [Int.toNat_natCast]
  show loopD _ _ _ _ (intsD ((0 : Nat) : Int) sp.length) _ (sput S l (.lst (([] : List Nat).map kD)))
  refine in_loop hn hm M ?_ sp.length 0 [] _ _ _ _ _ _ (by omega) (fun v hv => by cases hv) (Nat.le_refl _)
  intro ks z3 z4 z5 z6 z7 z8 hk lk
  simp only [w__law_inner_1]
  refine xpreR (l := l) (es := ks.map kD) rfl sput_at ?_
  rw [sdel_put hl]
  show w__law_inner_0 _ _ [some (RS sp), some (RT tr), some (.lst (ks.map kD)), z3, z4, z5, z6, z7, z8] S
  simp only [w__law_inner_0, xret, v2]
  exact ⟨S, Sub.refl _, h ks hk (by omega)⟩
/-! fields that are linear all over -/
theorem sQ_zero {α : Type} {f : α → Rat} : ∀ {xs : List α}, (∀ x ∈ xs, f x = 0) → sQ f xs = 0
  | [], _ => rfl
  | x :: xs, h => by simp only [sQ, h x List.mem_cons_self, sQ_zero fun y hy => h y (List.mem_cons_of_mem _ hy), Rat.add_zero]
theorem sQ_add {α : Type} (f g : α → Rat) : ∀ xs : List α, sQ (fun x => f x + g x) xs = sQ f xs + sQ g xs
  | [] => by simp only [sQ, Rat.add_zero]
  | x :: xs => by simp only [sQ, sQ_add f g xs]; grind
theorem sQ_sub {α : Type} (f g : α → Rat) : ∀ xs : List α, sQ (fun x => f x - g x) xs = sQ f xs - sQ g xs
  | [] => by simp only [sQ]; grind
  | x :: xs => by simp only [sQ, sQ_sub f g xs]; grind
theorem sQ_swap {α β : Type} (f : α → β → Rat) (ys : List β) : ∀ xs : List α, sQ (fun x => sQ (fun y => f x y) ys) xs = sQ (fun y => sQ (fun x => f x y) xs) ys
  | [] => by simp only [sQ]; exact (sQ_zero fun y _ => rfl).symm
  | x :: xs => by simp only [sQ, sQ_swap f ys xs, sQ_add]
theorem sQ_pick {α : Type} [DecidableEq α] {c : α → Rat} {k : α} : ∀ {es : List α}, es.Nodup → k ∈ es → sQ (fun e => if k = e then c e else 0) es = c k
  | [], _, h => by cases h
  | x :: es, nd, h => by
    rw [List.nodup_cons] at nd
    by_cases e : k = x
    · subst e
      simp only [sQ, if_pos]
      rw [sQ_zero (fun y hy => if_neg (show ¬ k = y from fun z => nd.1 (by rw [z]; exact hy))), Rat.add_zero]
    · simp only [sQ, if_neg e, Rat.zero_add]
      exact sQ_pick nd.2 ((List.mem_cons.mp h).resolve_left e)
theorem sQ_keep {α : Type} {f : α → Rat} {q : α → Bool} : ∀ {xs : List α}, (∀ x ∈ xs, q x = false → f x = 0) → sQ f xs = sQ f (xs.filter q)
  | [], _ => rfl
  | x :: xs, h => by
    have ih := sQ_keep fun y hy => h y (List.mem_cons_of_mem _ hy)
    by_cases c : q x = true
    · rw [List.filter_cons_of_pos c]; simp only [sQ, ih]
    · rw [List.filter_cons_of_neg c]
      simp only [sQ, ih, h x List.mem_cons_self (by simpa using c), Rat.zero_add]
/-- the worths, over both bottoms -/
def liZ (b s r u : Int) (sp : List PT) : List Int := sp.map fun c => s * b + (r * c.1 + u * c.2)
theorem li_len (b s r u : Int) (sp : List PT) : (liZ b s r u sp).length = sp.length := by unfold liZ; rw [List.length_map]
theorem li_at {b s r u : Int} {sp : List PT} {k : Nat} (h : k < sp.length) : wzA (liZ b s r u sp) k = s * b + (r * (spt sp k).1 + u * (spt sp k).2) := by
  unfold wzA liZ
  rw [List.getD_eq_getElem?_getD, List.getElem?_map, getD_at (d := ((0 : Int), (0 : Int))) h]
  rfl
theorem li_one {b L s r u : Int} (hb : 0 < b) (hL : 0 < L) (c : PT) : Rat.divInt s L + (Rat.divInt r L * (pnt c b).1 + Rat.divInt u L * (pnt c b).2) = Rat.divInt (s * b + (r * c.1 + u * c.2)) (L * b) := by
  have nl := k_ne hL
  have nb := k_ne hb
  unfold pnt
  simp only [div_k, Rat.intCast_add, Rat.intCast_mul]
  generalize (L : Rat) = l at *
  generalize (b : Rat) = bb at *
  grind
theorem li_field {b L s r u : Int} {sp : List PT} (hb : 0 < b) (hL : 0 < L) : ((ovP b sp).map fun p => Rat.divInt s L + (Rat.divInt r L * p.1 + Rat.divInt u L * p.2)) = fdQ (L * b) (liZ b s r u sp) := by
  unfold ovP fdQ liZ
  rw [List.map_map, List.map_map]
  exact List.map_congr_left fun c _ => li_one hb hL c
theorem li_bd {b s r u : Int} {sp : List PT} (hb : 1 ≤ b ∧ b ≤ 64) (hs : s.natAbs ≤ 20) (hr : r.natAbs ≤ 10) (hu : u.natAbs ≤ 10) (B : bdP 2000 sp) : ∀ x ∈ liZ b s r u sp, x.natAbs ≤ 42000 := fun x hx => by
  obtain ⟨c, hc, rfl⟩ := List.mem_map.mp hx
  obtain ⟨b1, b2⟩ := B c hc
  have q1 : (s * b).natAbs ≤ 20 * 64 := sm_mul hs (by omega)
  have q2 : (r * c.1).natAbs ≤ 10 * 2000 := sm_mul hr b1
  have q3 : (u * c.2).natAbs ≤ 10 * 2000 := sm_mul hu b2
  omega
theorem li_eR (a b c : PT) (k r u : Int) : eR a b c (k + (r * a.1 + u * a.2)) (k + (r * b.1 + u * b.2)) (k + (r * c.1 + u * c.2)) = r * trn a b c := by unfold eR trn; grind
theorem li_eU (a b c : PT) (k r u : Int) : eU a b c (k + (r * a.1 + u * a.2)) (k + (r * b.1 + u * b.2)) (k + (r * c.1 + u * c.2)) = u * trn a b c := by unfold eU trn; grind
theorem li_eq {b s r u : Int} {sp : List PT} {t : TR} (ho : triOk sp t) : eQ2 sp (liZ b s r u sp) (liZ b s r u sp) t = ((r * r + u * u : Int) : Rat) * ((trn (spt sp t.1) (spt sp t.2.1) (spt sp t.2.2) : Int) : Rat) / 2 := by
  obtain ⟨⟨t1, t2, t3⟩, t4⟩ := ho
  unfold eQ2 eE2
  rw [li_at t1, li_at t2, li_at t3, li_eR, li_eU, div_k]
  have nt := k_ne t4
  simp only [Rat.intCast_add, Rat.intCast_mul]
  have e : ((2 : Int) : Rat) = 2 := rfl
  rw [e]
  generalize ((trn (spt sp t.1) (spt sp t.2.1) (spt sp t.2.2) : Int) : Rat) = T at *
  generalize (r : Rat) = r at *
  generalize (u : Rat) = u at *
  grind
def arT (sp : List PT) (tr : List TR) : Int := (tr.map fun t => trn (spt sp t.1) (spt sp t.2.1) (spt sp t.2.2)).sum
theorem sQ_ints {α : Type} (f : α → Int) : ∀ xs : List α, sQ (fun x => ((f x : Int) : Rat)) xs = (((xs.map f).sum : Int) : Rat)
  | [] => rfl
  | x :: xs => by simp only [sQ, List.map_cons, List.sum_cons, sQ_ints f xs, Rat.intCast_add]
theorem li_sum {b s r u : Int} {sp : List PT} {tr : List TR} (ho : ∀ t ∈ tr, triOk sp t) : sQ (eQ2 sp (liZ b s r u sp) (liZ b s r u sp)) tr = ((r * r + u * u : Int) : Rat) * (arT sp tr : Rat) / 2 := by
  rw [sQ_congr fun t ht => li_eq (ho t ht), sQ_div, sQ_mul, sQ_ints (fun t : TR => trn (spt sp t.1) (spt sp t.2.1) (spt sp t.2.2))]
  rfl
theorem li_due {A b L r u : Int} {q : Rat} (hb : 0 < b) (hL : 0 < L) (h : q = ((r * r + u * u : Int) : Rat) * (A : Rat) / 2) : q / ((2 * (L * b) * (L * b) : Int) : Rat) = Rat.divInt ((r * r + u * u) * A) (4 * L * L * b * b) := by
  subst h
  have nl := k_ne hL
  have nb := k_ne hb
  rw [div_k]
  simp only [Rat.intCast_mul]
  have e : ((2 : Int) : Rat) = 2 := rfl
  have e4 : ((4 : Int) : Rat) = 4 := rfl
  rw [e, e4]
  generalize ((r * r + u * u : Int) : Rat) = R at *
  generalize (A : Rat) = a at *
  generalize (L : Rat) = l at *
  generalize (b : Rat) = bb at *
  grind
theorem li_two {N : Int} {q : Rat} (hN : 0 < N) : q / ((N : Rat) * (N : Rat)) = 2 * (q / ((2 * N * N : Int) : Rat)) := by
  have nn := k_ne hN
  simp only [Rat.intCast_mul]
  have e : ((2 : Int) : Rat) = 2 := rfl
  rw [e]
  generalize (N : Rat) = n at *
  grind
/-! what flows out of a point -/
theorem hc_cot {a b' c : PT} {k : Int} (hk : 0 < k) (h : 0 < trn c a b') : cot (pnt c k) (pnt a k) (pnt b' k) = 2 * hC a b' c := by
  rw [cot_pnt hk h]
  unfold hC
  rw [div_k, div_k, Rat.intCast_mul]
  have e : ((2 : Int) : Rat) = 2 := rfl
  rw [e]
  have nz := k_ne h
  generalize ((trn c a b' : Int) : Rat) = t at *
  grind
theorem uni_at {n v k : Nat} (h : k < n) : qAt (uni n v) k = if k = v then 1 else 0 := by
  unfold qAt uni
  rw [List.getD_eq_getElem?_getD, List.getElem?_map, List.getElem?_range h]
  rfl
theorem dg_uni {wo : List Int} {N : Int} {n v i j : Nat} (l : wo.length = n) (hi : i < n) (hj : j < n) (ne : i ≠ j) : dG (fdQ N wo) (uni n v) i j = hv wo v i j / (N : Rat) := by
  unfold dG hv
  rw [uni_at hi, uni_at hj, fd_at (by omega), fd_at (by omega), div_k, div_k]
  by_cases c : i = v
  · have d : ¬ j = v := by omega
    rw [if_pos c, if_pos c, if_neg d, c, Rat.intCast_sub]
    grind
  · by_cases d : j = v
    · rw [if_neg c, if_neg c, if_pos d, if_pos d, d, Rat.intCast_sub]
      grind
    · rw [if_neg c, if_neg c, if_neg d, if_neg d]
      grind
theorem uni_law {sp : List PT} {tr0 tr : List TR} {b N : Int} {wo : List Int} {v : Nat} (hb : 0 < b) (l : wo.length = sp.length) (ho : ∀ t ∈ tr0, triOk sp t) (R : RotP tr0 tr) : sQ (eG (ovP b sp) (dG (fdQ N wo) (uni sp.length v))) tr / 2 = sQ (flT sp wo v) tr0 / (N : Rat) := by
  rw [rot_sum (fun t u r => eG_rot r) R, ← sQ_div, ← sQ_div]
  refine sQ_congr fun t ht => ?_
  obtain ⟨⟨t1, t2, t3⟩, t4⟩ := ho t ht
  obtain ⟨n1, n2, n3⟩ := pos_ne t4
  have d1 : t.1 ≠ t.2.1 := fun e => n1 (by rw [e])
  have d2 : t.2.1 ≠ t.2.2 := fun e => n2 (by rw [e])
  have d3 : t.2.2 ≠ t.1 := fun e => n3 (by rw [e])
  have r1 : trn (spt sp t.2.1) (spt sp t.2.2) (spt sp t.1) = trn (spt sp t.1) (spt sp t.2.1) (spt sp t.2.2) := trn_rot _ _ _
  have r2 : trn (spt sp t.2.2) (spt sp t.1) (spt sp t.2.1) = trn (spt sp t.1) (spt sp t.2.1) (spt sp t.2.2) := (trn_rot _ _ _).symm
  unfold eG flT
  rw [ov_at t1, ov_at t2, ov_at t3, dg_uni l t1 t2 d1, dg_uni l t2 t3 d2, dg_uni l t3 t1 d3, hc_cot hb (by rw [r2]; exact t4), hc_cot hb t4, hc_cot hb (by rw [r1]; exact t4)]
  generalize hC _ _ _ = x
  generalize hC (spt sp t.2.1) (spt sp t.2.2) (spt sp t.1) = y
  generalize hC (spt sp t.2.2) (spt sp t.1) (spt sp t.2.1) = z
  generalize (N : Rat) = k
  grind
/-- a number at each point: the other part of the way -/
def kap (r u : Int) (sp : List PT) (k : Nat) : Int := r * (spt sp k).2 - u * (spt sp k).1
def nxT (f : Nat → Rat) (v : Nat) (t : TR) : Rat := (if t.1 = v then f t.2.1 else 0) + (if t.2.1 = v then f t.2.2 else 0) + (if t.2.2 = v then f t.1 else 0)
def pvT (f : Nat → Rat) (v : Nat) (t : TR) : Rat := (if t.1 = v then f t.2.2 else 0) + (if t.2.1 = v then f t.1 else 0) + (if t.2.2 = v then f t.2.1 else 0)
theorem fl_key {a b c : PT} {r u : Int} (hT : 0 < trn a b c) : hC a b c * ((r * (a.1 - b.1) + u * (a.2 - b.2) : Int) : Rat) + hC c a b * ((r * (a.1 - c.1) + u * (a.2 - c.2) : Int) : Rat) = (((r * b.2 - u * b.1 : Int) : Rat) - ((r * c.2 - u * c.1 : Int) : Rat)) / 2 := by
  have r1 : trn c a b = trn a b c := (trn_rot _ _ _).symm
  have r2 : trn b c a = trn a b c := trn_rot _ _ _
  unfold hC
  rw [r1, r2, div_k, div_k, ← Rat.intCast_sub]
  have nt := k_ne hT
  have key : ldot c a b * (r * (a.1 - b.1) + u * (a.2 - b.2)) + ldot b c a * (r * (a.1 - c.1) + u * (a.2 - c.2)) = trn a b c * ((r * b.2 - u * b.1) - (r * c.2 - u * c.1)) := by
    unfold ldot trn; grind
  have e := congrArg (fun i : Int => (i : Rat)) key
  rw [Rat.intCast_add, Rat.intCast_mul, Rat.intCast_mul, Rat.intCast_mul] at e
  rw [Rat.intCast_mul 2]
  have e2 : ((2 : Int) : Rat) = 2 := rfl
  rw [e2]
  generalize ((ldot c a b : Int) : Rat) = x at *
  generalize ((ldot b c a : Int) : Rat) = y at *
  generalize ((r * (a.1 - b.1) + u * (a.2 - b.2) : Int) : Rat) = p at *
  generalize ((r * (a.1 - c.1) + u * (a.2 - c.2) : Int) : Rat) = q at *
  generalize (((r * b.2 - u * b.1) - (r * c.2 - u * c.1) : Int) : Rat) = w at *
  generalize ((trn a b c : Int) : Rat) = T at *
  grind
theorem fl_tri {b s r u : Int} {sp : List PT} {v : Nat} {t : TR} (ho : triOk sp t) : flT sp (liZ b s r u sp) v t = (nxT (fun k => ((kap r u sp k : Int) : Rat)) v t - pvT (fun k => ((kap r u sp k : Int) : Rat)) v t) / 2 := by
  obtain ⟨⟨t1, t2, t3⟩, t4⟩ := ho
  obtain ⟨n1, n2, n3⟩ := pos_ne t4
  have d1 : t.1 ≠ t.2.1 := fun e => n1 (by rw [e])
  have d2 : t.2.1 ≠ t.2.2 := fun e => n2 (by rw [e])
  have d3 : t.2.2 ≠ t.1 := fun e => n3 (by rw [e])
  have r1 : 0 < trn (spt sp t.2.1) (spt sp t.2.2) (spt sp t.1) := by rw [trn_rot]; exact t4
  have r2 : 0 < trn (spt sp t.2.2) (spt sp t.1) (spt sp t.2.1) := by rw [← trn_rot]; exact t4
  have w : ∀ {i j : Nat}, i < sp.length → j < sp.length → ((wzA (liZ b s r u sp) i - wzA (liZ b s r u sp) j : Int) : Rat) = ((r * ((spt sp i).1 - (spt sp j).1) + u * ((spt sp i).2 - (spt sp j).2) : Int) : Rat) := fun hi hj => by
    rw [li_at hi, li_at hj]
    congr 1
    grind
  unfold flT hv nxT pvT
  by_cases c1 : t.1 = v
  · have c2 : ¬ t.2.1 = v := by omega
    have c3 : ¬ t.2.2 = v := by omega
    subst c1
    rw [if_pos rfl, if_neg c2, if_neg c3, if_neg c3, if_pos rfl, if_pos rfl, if_neg c2, if_neg c3, if_pos rfl, if_neg c2, if_neg c3, w t1 t2, w t1 t3]
    have k := fl_key (r := r) (u := u) t4
    unfold kap
    rw [Rat.mul_zero, Rat.add_zero, Rat.add_zero, Rat.add_zero, Rat.add_zero, Rat.add_zero]
    exact k
  · by_cases c2 : t.2.1 = v
    · have c3 : ¬ t.2.2 = v := by omega
      subst c2
      rw [if_neg c1, if_pos rfl, if_pos rfl, if_neg c3, if_neg c1, if_neg c1, if_pos rfl, if_neg c3, if_neg c1, if_pos rfl, if_neg c3, w t2 t1, w t2 t3]
      have k := fl_key (r := r) (u := u) r1
      unfold kap
      rw [Rat.mul_zero, Rat.add_zero, Rat.add_zero, Rat.add_zero, Rat.zero_add, Rat.zero_add, Rat.add_comm]
      exact k
    · by_cases c3 : t.2.2 = v
      · subst c3
        rw [if_neg c1, if_neg c2, if_neg c2, if_pos rfl, if_pos rfl, if_neg c1, if_neg c2, if_pos rfl, if_neg c1, if_neg c2, if_pos rfl, w t3 t1, w t3 t2]
        have k := fl_key (r := r) (u := u) r2
        unfold kap
        rw [Rat.mul_zero, Rat.zero_add, Rat.zero_add, Rat.zero_add, Rat.zero_add, Rat.add_comm]
        exact k
      · rw [if_neg c1, if_neg c2, if_neg c2, if_neg c3, if_neg c3, if_neg c1, if_neg c1, if_neg c2, if_neg c3, if_neg c1, if_neg c2, if_neg c3]
        simp only [Rat.mul_zero, Rat.add_zero]
        grind
theorem pick_w {n : Nat} {p : Prop} [Decidable p] {f : Nat → Rat} {k : Nat} (h : k < n) : sQ (fun w => if p ∧ k = w then f w else 0) (List.range n) = if p then f k else 0 := by
  by_cases c : p
  · rw [if_pos c]
    have e : sQ (fun w => if p ∧ k = w then f w else 0) (List.range n) = sQ (fun w => if k = w then f w else 0) (List.range n) := sQ_congr fun w _ => by
      by_cases d : k = w
      · rw [if_pos ⟨c, d⟩, if_pos d]
      · rw [if_neg (fun z => d z.2), if_neg d]
    rw [e]
    exact sQ_pick List.nodup_range (List.mem_range.mpr h)
  · rw [if_neg c]
    exact sQ_zero fun w _ => if_neg fun z => c z.1
theorem has_sum {i j : Nat} {t : TR} {x : Rat} (d1 : t.1 ≠ t.2.1) (d2 : t.2.1 ≠ t.2.2) (d3 : t.2.2 ≠ t.1) : (if hasE i j t = true then x else 0) = (if t.1 = i ∧ t.2.1 = j then x else 0) + (if t.2.1 = i ∧ t.2.2 = j then x else 0) + (if t.2.2 = i ∧ t.1 = j then x else 0) := by
  have e : (hasE i j t = true) ↔ ((t.1 = i ∧ t.2.1 = j) ∨ (t.2.1 = i ∧ t.2.2 = j) ∨ (t.2.2 = i ∧ t.1 = j)) := by
    unfold hasE
    simp only [Bool.or_eq_true, Bool.and_eq_true, beq_iff_eq, or_assoc]
  by_cases a : t.1 = i ∧ t.2.1 = j
  · rw [if_pos (e.mpr (.inl a)), if_pos a, if_neg (by omega), if_neg (by omega), Rat.add_zero, Rat.add_zero]
  · by_cases b : t.2.1 = i ∧ t.2.2 = j
    · rw [if_pos (e.mpr (.inr (.inl b))), if_neg a, if_pos b, if_neg (by omega), Rat.add_zero, Rat.zero_add]
    · by_cases c : t.2.2 = i ∧ t.1 = j
      · rw [if_pos (e.mpr (.inr (.inr c))), if_neg a, if_neg b, if_pos c, Rat.zero_add, Rat.zero_add]
      · rw [if_neg (fun z => by rcases e.mp z with z | z | z <;> contradiction), if_neg a, if_neg b, if_neg c, Rat.add_zero, Rat.add_zero]
theorem nx_sum {sp : List PT} {f : Nat → Rat} {v : Nat} {t : TR} (ho : triOk sp t) : nxT f v t = sQ (fun w => if hasE v w t = true then f w else 0) (List.range sp.length) := by
  obtain ⟨⟨t1, t2, t3⟩, t4⟩ := ho
  obtain ⟨n1, n2, n3⟩ := pos_ne t4
  have d1 : t.1 ≠ t.2.1 := fun e => n1 (by rw [e])
  have d2 : t.2.1 ≠ t.2.2 := fun e => n2 (by rw [e])
  have d3 : t.2.2 ≠ t.1 := fun e => n3 (by rw [e])
  rw [sQ_congr fun w _ => has_sum (x := f w) d1 d2 d3, sQ_add, sQ_add, pick_w t2, pick_w t3, pick_w t1]
  rfl
theorem pv_sum {sp : List PT} {f : Nat → Rat} {v : Nat} {t : TR} (ho : triOk sp t) : pvT f v t = sQ (fun w => if hasE w v t = true then f w else 0) (List.range sp.length) := by
  obtain ⟨⟨t1, t2, t3⟩, t4⟩ := ho
  obtain ⟨n1, n2, n3⟩ := pos_ne t4
  have d1 : t.1 ≠ t.2.1 := fun e => n1 (by rw [e])
  have d2 : t.2.1 ≠ t.2.2 := fun e => n2 (by rw [e])
  have d3 : t.2.2 ≠ t.1 := fun e => n3 (by rw [e])
  have e : ∀ {p q : Prop} [Decidable p] [Decidable q] {x : Rat}, (if p ∧ q then x else 0) = if q ∧ p then x else 0 := fun {p q _ _ x} => by
    by_cases h : p ∧ q
    · rw [if_pos h, if_pos ⟨h.2, h.1⟩]
    · rw [if_neg h, if_neg fun z => h ⟨z.2, z.1⟩]
  have e2 : sQ (fun w => if hasE w v t = true then f w else 0) (List.range sp.length) = sQ (fun w => (if t.2.1 = v ∧ t.1 = w then f w else 0) + (if t.2.2 = v ∧ t.2.1 = w then f w else 0) + (if t.1 = v ∧ t.2.2 = w then f w else 0)) (List.range sp.length) := sQ_congr fun w _ => by
    rw [has_sum (x := f w) d1 d2 d3]
    congr 1
    · congr 1
      · exact e
      · exact e
    · exact e
  rw [e2, sQ_add, sQ_add, pick_w t1, pick_w t2, pick_w t3]
  unfold pvT
  generalize (if t.1 = v then f t.2.2 else 0) = x
  generalize (if t.2.1 = v then f t.1 else 0) = y
  generalize (if t.2.2 = v then f t.2.1 else 0) = z
  grind
theorem cnt_sum {tr : List TR} {i j : Nat} {x : Rat} (h : tr.countP (hasE i j) ≤ 1) : sQ (fun t => if hasE i j t = true then x else 0) tr = if tr.any (hasE i j) = true then x else 0 := by
  by_cases c : tr.any (hasE i j) = true
  · obtain ⟨t, ht, e⟩ := List.any_eq_true.mp c
    rw [if_pos c, sQ_keep (q := hasE i j) fun u _ e => if_neg (by rw [e]; decide), one_of h ht e, sQ_one, if_pos e]
  · rw [if_neg c]
    refine sQ_zero fun t ht => if_neg fun e => c (List.any_eq_true.mpr ⟨t, ht, e⟩)
theorem inn_any {tr : List TR} {v w : Nat} (I : InnP tr v) : tr.any (hasE v w) = tr.any (hasE w v) := by
  rw [Bool.eq_iff_iff, List.any_eq_true, List.any_eq_true]
  constructor
  · rintro ⟨t, ht, e⟩
    exact I t ht v w (.inl rfl) e
  · rintro ⟨t, ht, e⟩
    exact I t ht w v (.inr rfl) e
theorem inn_zero {sp : List PT} {tr : List TR} {f : Nat → Rat} {v : Nat} (F : Flat sp tr) (ho : ∀ t ∈ tr, triOk sp t) (I : InnP tr v) : sQ (nxT f v) tr = sQ (pvT f v) tr := by
  rw [sQ_congr fun t ht => nx_sum (f := f) (v := v) (ho t ht), sQ_congr fun t ht => pv_sum (f := f) (v := v) (ho t ht),
    sQ_swap (fun (t : TR) (w : Nat) => if hasE v w t = true then f w else 0), sQ_swap (fun (t : TR) (w : Nat) => if hasE w v t = true then f w else 0)]
  refine sQ_congr fun w _ => ?_
  rw [cnt_sum (one_edge F ho v w), cnt_sum (one_edge F ho w v), inn_any I]
theorem fl_inn {b s r u : Int} {sp : List PT} {tr : List TR} {v : Nat} (F : Flat sp tr) (ho : ∀ t ∈ tr, triOk sp t) (I : InnP tr v) : sQ (flT sp (liZ b s r u sp) v) tr = 0 := by
  rw [sQ_congr fun t ht => fl_tri (b := b) (s := s) (r := r) (u := u) (v := v) (ho t ht), sQ_div, sQ_sub, inn_zero F ho I]
  grind
theorem all_tri {sp : List PT} {f : Nat → Rat} {t : TR} (ho : triOk sp t) : sQ (fun v => nxT f v t - pvT f v t) (List.range sp.length) = 0 := by
  obtain ⟨⟨t1, t2, t3⟩, t4⟩ := ho
  have pk : ∀ {k : Nat} {x : Rat}, k < sp.length → sQ (fun v => if k = v then x else 0) (List.range sp.length) = x := fun {k x} h => sQ_pick (c := fun _ => x) List.nodup_range (List.mem_range.mpr h)
  unfold nxT pvT
  rw [sQ_sub, sQ_add, sQ_add, sQ_add, sQ_add, pk t1, pk t2, pk t3, pk t1, pk t2, pk t3]
  grind
theorem fl_all {b s r u : Int} {sp : List PT} {tr : List TR} (ho : ∀ t ∈ tr, triOk sp t) : sQ (fun v => sQ (flT sp (liZ b s r u sp) v) tr) (List.range sp.length) = 0 := by
  rw [sQ_swap (fun (v : Nat) (t : TR) => flT sp (liZ b s r u sp) v t)]
  refine sQ_zero fun t ht => ?_
  rw [sQ_congr fun v _ => fl_tri (b := b) (s := s) (r := r) (u := u) (v := v) (ho t ht), sQ_div, all_tri (ho t ht)]
  grind
/-! sizes -/
theorem kap_bd {r u : Int} {sp : List PT} {k : Nat} (hr : r.natAbs ≤ 10) (hu : u.natAbs ≤ 10) (B : bdP 2000 sp) (h : k < sp.length) : (kap r u sp k).natAbs ≤ 40000 := by
  obtain ⟨b1, b2⟩ := bd_at B h
  unfold kap
  have q2 : (r * (spt sp k).2).natAbs ≤ 10 * 2000 := sm_mul hr b2
  have q3 : (u * (spt sp k).1).natAbs ≤ 10 * 2000 := sm_mul hu b1
  omega
theorem ov_one {x : Int} {m : Nat} (h : x.natAbs ≤ m) : Ov 1 m ((x : Int) : Rat) := ⟨x, by rw [div_k]; have e : ((1 : Int) : Rat) = 1 := rfl; rw [e]; grind, h⟩
theorem ite_ov {p : Prop} [Decidable p] {x : Rat} {m : Nat} (h : Ov 1 m x) : Ov 1 m (if p then x else 0) := by
  by_cases c : p
  · rw [if_pos c]; exact h
  · rw [if_neg c]; exact Ov.zero _ _
theorem fl_ov {b s r u : Int} {sp : List PT} {v : Nat} {t : TR} (hr : r.natAbs ≤ 10) (hu : u.natAbs ≤ 10) (B : bdP 2000 sp) (ho : triOk sp t) : Ov 2 240000 (flT sp (liZ b s r u sp) v t) := by
  rw [fl_tri ho]
  obtain ⟨⟨t1, t2, t3⟩, t4⟩ := ho
  have k : ∀ {i : Nat}, i < sp.length → Ov 1 40000 ((kap r u sp i : Int) : Rat) := fun h => ov_one (kap_bd hr hu B h)
  have a : Ov 1 120000 (nxT (fun k => ((kap r u sp k : Int) : Rat)) v t) := by
    unfold nxT
    exact (((ite_ov (k t2)).add (ite_ov (k t3))).add (ite_ov (k t1))).mono (by decide)
  have c : Ov 1 120000 (pvT (fun k => ((kap r u sp k : Int) : Rat)) v t) := by
    unfold pvT
    exact (((ite_ov (k t3)).add (ite_ov (k t1))).add (ite_ov (k t2))).mono (by decide)
  exact (a.sub c).half
theorem Ov.over {D N : Int} {k : Nat} {q : Rat} (h : Ov D k q) : Ov (D * N) k (q / (N : Rat)) := by
  obtain ⟨t, e, b⟩ := h
  refine ⟨t, ?_, b⟩
  rw [e, div_k, div_k, Rat.intCast_mul, Rat.div_def, Rat.div_def, Rat.div_def, Rat.inv_mul_rev]
  grind
theorem flow_ov {N b s r u : Int} {sp : List PT} {tr : List TR} {v : Nat} (hr : r.natAbs ≤ 10) (hu : u.natAbs ≤ 10) (B : bdP 2000 sp) (ho : ∀ t ∈ tr, triOk sp t) (hl : tr.length ≤ 18) : Ov (2 * N) 4320000 (sQ (flT sp (liZ b s r u sp) v) tr / (N : Rat)) := by
  have o := (sQ_ov fun t ht => fl_ov (b := b) (s := s) (v := v) hr hu B (ho t ht)).over (N := N)
  exact o.mono (by
    have : tr.length * 240000 ≤ 18 * 240000 := Nat.mul_le_mul_right _ hl
    omega)
theorem one_Q : k_ONE = DQ 1 := rfl
theorem does_unit_field : Does c_unit_field w_unit_field N_unit_field 2 := by
  rintro ds S P X ⟨ps, tr, v, rfl, hl, h⟩
  refine ⟨rfl, ?_⟩
  show w_unit_field _ _ [some (MD ps tr), some (.int (v : Int)), none] S
  have f0 : ∀ {r : PL.Env} {S : Sto} {P : PD} {X : PX}, wFld "Mesh" ["points", "triangles"] 0 (wVar 0) (some (MD ps tr) :: r) S P X = P (PL' ps) S := fp fun Q => v0
  have el : ∀ {S : Sto} {P : PD}, oLen [PL' ps] S P = P (.int (ps.length : Nat)) S := fun {S P} => by rw [show PL' ps = .tup (ps.map DP) from rfl, len_tup, List.length_map]
  simp only [w_unit_field, xret, xn, xcons, xnil]
  refine lcM_go (fun k : Nat => .int (k : Int)) (fun k => DQ (if k = v then 1 else 0)) (List.range ps.length) (fun Q hq => ?_) (le_line (by rw [List.length_range]; omega)) (fun k hk S1 R hR => ?_) ?_
  · simp only [xrngA, xcons, xnil, xn, f0, el]
    refine ⟨by omega, ?_⟩
    rw [Int.toNat_natCast]
    have e : intsD 0 ps.length = (List.range ps.length).map fun i : Nat => D.int (i : Int) := by
      unfold intsD
      refine List.map_congr_left fun i _ => ?_
      rw [Int.zero_add]
    rw [e]; exact hq
  · have w2 : ∀ {a0 a1 a2 : Option D}, wipeD [a0, a1, a2] [2] = [a0, a1, none] := rfl
    simp only [w2, g2, xif, xbl, x2, v2, v1, xc, oeqI]
    by_cases c : k = v
    · have c' : (k : Int) = v := by omega
      rw [if_pos c] at hR
      simp only [decide_eq_true c', if_true]
      rw [one_Q]; exact hR
    · have c' : ¬ (k : Int) = v := by omega
      rw [if_neg c] at hR
      simp only [decide_eq_false c', Bool.false_eq_true, if_false]
      rw [zero_Q]; exact hR
  · have e : (List.range ps.length).map (fun k => DQ (if k = v then 1 else 0)) = (uni ps.length v).map DQ := by unfold uni; rw [List.map_map]; rfl
    rw [e, tup_lst]
    exact ⟨S, Sub.refl _, h⟩
theorem sm_of {ps : List (Rat × Rat)} {fs : List Rat} {t : TR} (hp : ∀ p ∈ ps, SzP 12 p) (hf : ∀ f ∈ fs, Sz 45 f) (hl : fs.length = ps.length) (ht : triIn ps.length t) (nz : dar (ptAt ps t.1) (ptAt ps t.2.1) (ptAt ps t.2.2) ≠ 0) : SmT ps fs t :=
  have gp : ∀ {k : Nat}, k < ps.length → SzP 12 (ptAt ps k) := fun {k} hk => by
    unfold ptAt
    rw [List.getD_eq_getElem?_getD, List.getElem?_eq_getElem hk]
    exact hp _ (List.getElem_mem hk)
  have gf : ∀ {k : Nat}, k < ps.length → Sz 45 (qAt fs k) := fun {k} hk => by
    have hk' : k < fs.length := by omega
    unfold qAt
    rw [List.getD_eq_getElem?_getD, List.getElem?_eq_getElem hk']
    exact hf _ (List.getElem_mem hk')
  ⟨gp ht.1, gp ht.2.1, gp ht.2.2, gf ht.1, gf ht.2.1, gf ht.2.2, nz⟩
theorem fo_int {L : Int} {M : Nat} {zs : List Int} {n : Nat} (l : zs.length = n) (h : ∀ x ∈ zs, x.natAbs ≤ M) : FO L M n (fdQ L zs) :=
  ⟨by rw [fd_len]; exact l, fun x hx => by
    obtain ⟨i, hi, rfl⟩ := List.mem_map.mp hx
    exact ⟨i, rfl, h i hi⟩⟩
theorem fo_uni {L : Int} {n v : Nat} (hL : 1 ≤ L ∧ L ≤ 400) : FO L 42000 n (uni n v) := by
  refine ⟨by unfold uni; rw [List.length_map, List.length_range], fun x hx => ?_⟩
  unfold uni at hx
  obtain ⟨k, _, rfl⟩ := List.mem_map.mp hx
  by_cases c : k = v
  · rw [if_pos c]
    refine ⟨L, ?_, by omega⟩
    have nz := k_ne (show 0 < L by omega)
    rw [div_k]
    generalize (L : Rat) = l at *
    grind
  · rw [if_neg c]; exact Ov.zero _ _
section
variable {n m : Nat} {sp : List PT} {tr0 tr : List TR} {b N : Int} {S : Sto} {P : PD} {X : PX}
theorem k_mx {zs : List Int} (hn : n ≤ 40) (hm : m ≤ 18) (hb : 1 ≤ b ∧ b ≤ 64) (hN : 1 ≤ N ∧ N ≤ 400) (M : MO 2000 n m sp tr0) (R : RotP tr0 tr) (l : zs.length = sp.length) (F : ∀ x ∈ zs, x.natAbs ≤ 42000)
    (k : P (DQ (sQ (eQ2 sp zs zs) tr0 / ((N : Rat) * (N : Rat)))) S) : c_mixed_energy [MD (ovP b sp) tr, FQ (fdQ N zs), FQ (fdQ N zs)] S P X := by
  have f := fo_int (L := N) (n := (ovP b sp).length) (by rw [ov_len]; exact l) F
  refine ⟨_, _, _, _, N, 42000, _, _, rfl, mg_of (by decide) hn (by omega) hb (rot_mo M R), ⟨hN.1, hN.2, by decide⟩, f, f, ?_⟩
  rw [mix_law (by omega) (by omega) (by omega) l l M.ok R]
  exact k
theorem k_en {zs : List Int} (hn : n ≤ 40) (hm : m ≤ 18) (hb : 1 ≤ b ∧ b ≤ 64) (hN : 1 ≤ N ∧ N ≤ 400) (M : MO 2000 n m sp tr0) (R : RotP tr0 tr) (l : zs.length = sp.length) (F : ∀ x ∈ zs, x.natAbs ≤ 42000)
    (k : P (DQ (sQ (eQ2 sp zs zs) tr0 / ((2 * N * N : Int) : Rat))) S) : c_energy [MD (ovP b sp) tr, FQ (fdQ N zs)] S P X := by
  have f := fo_int (L := N) (n := (ovP b sp).length) (by rw [ov_len]; exact l) F
  refine ⟨_, _, _, _, N, 42000, _, rfl, mg_of (by decide) hn (by omega) hb (rot_mo M R), ⟨hN.1, hN.2, by decide⟩, f, ?_⟩
  rw [energy_law (by omega) (by omega) l M.ok R]
  exact k
theorem k_un {zs : List Int} {v : Nat} (hn : n ≤ 40) (hm : m ≤ 18) (hb : 1 ≤ b ∧ b ≤ 64) (hN : 1 ≤ N ∧ N ≤ 400) (M : MO 2000 n m sp tr0) (R : RotP tr0 tr) (l : zs.length = sp.length) (F : ∀ x ∈ zs, x.natAbs ≤ 42000)
    (k : P (DQ (sQ (flT sp zs v) tr0 / (N : Rat))) S) : c_mixed_energy [MD (ovP b sp) tr, FQ (fdQ N zs), FQ (uni sp.length v)] S P X := by
  have pl := ov_len b sp
  have f := fo_int (L := N) (n := (ovP b sp).length) (by rw [pl]; exact l) F
  refine ⟨_, _, _, _, N, 42000, _, _, rfl, mg_of (by decide) hn (by omega) hb (rot_mo M R), ⟨hN.1, hN.2, by decide⟩, f, ?_, ?_⟩
  · rw [pl]; exact fo_uni hN
  · rw [uni_law (by omega) l M.ok R]
    exact k
theorem k_tr {s r u : Int} (hn : n ≤ 40) (hm : m ≤ 18) (hb : 1 ≤ b ∧ b ≤ 64) (hN : 1 ≤ N ∧ N ≤ 400) (hr : r.natAbs ≤ 10) (hu : u.natAbs ≤ 10) (M : MO 2000 n m sp tr0) (R : RotP tr0 tr) (F : ∀ x ∈ liZ b s r u sp, x.natAbs ≤ 42000)
    (k : P (DQ (sQ (eQ2 sp (liZ b s r u sp) (liZ b s r u sp)) tr0 / ((2 * N * N : Int) : Rat))) S) : c_energy_by_triangles [MD (ovP b sp) tr, FQ (fdQ N (liZ b s r u sp))] S P X := by
  have pl := ov_len b sp
  have M' := rot_mo M R
  have tl := M'.lt
  have zl := li_len b s r u sp
  have nb : (N * N).natAbs ≤ 400 * 400 := sm_mul (by omega) (by omega)
  have np : 0 < N * N := Int.mul_pos (by omega) (by omega)
  have hp := ov_sz hb M.bd
  have hf : ∀ f ∈ fdQ N (liZ b s r u sp), Sz 45 f := fun f hf => by
    obtain ⟨x, hx, rfl⟩ := List.mem_map.mp hf
    exact (Sz.divInt (n := 25) (bd_pow (m := 42000) (F x hx) (by decide)) (bd_pow (m := 400) (by omega) (by decide)) (by omega)).mono (by decide)
  refine ⟨_, _, _, 4 * (N * N), 200 * 2 ^ 31, rfl, by rw [fd_len, zl, pl], by omega, ⟨by omega, bd_s (by omega) (by decide), by decide⟩, fun t ht => ?_, ?_⟩
  · have o := M'.ok t ht
    have o' := o
    obtain ⟨⟨t1, t2, t3⟩, t4⟩ := o
    refine ⟨by rw [pl]; exact ⟨t1, t2, t3⟩, sm_of hp hf (by rw [fd_len, zl, pl]) (by rw [pl]; exact ⟨t1, t2, t3⟩) (by rw [ov_at t1, ov_at t2, ov_at t3]; exact dar_nz (by omega) t4), ?_⟩
    rw [te_law (by omega) (by omega) zl o', li_eq o']
    have q1 : (r * r).natAbs ≤ 10 * 10 := sm_mul hr hr
    have q2 : (u * u).natAbs ≤ 10 * 10 := sm_mul hu hu
    have q3 : (trn (spt sp t.1) (spt sp t.2.1) (spt sp t.2.2)).natAbs ≤ 2 ^ 31 := Nat.le_of_lt (bd_tr' (B := 2000) (by decide) (bd_at M.bd t1) (bd_at M.bd t2) (bd_at M.bd t3))
    refine ⟨(r * r + u * u) * trn (spt sp t.1) (spt sp t.2.1) (spt sp t.2.2), ?_, sm_mul (by omega) q3⟩
    have nn := k_ne (show 0 < N by omega)
    rw [div_k]
    simp only [Rat.intCast_mul]
    have e : ((2 : Int) : Rat) = 2 := rfl
    have e4 : ((4 : Int) : Rat) = 4 := rfl
    rw [e, e4]
    generalize ((r * r + u * u : Int) : Rat) = RR at *
    generalize ((trn (spt sp t.1) (spt sp t.2.1) (spt sp t.2.2) : Int) : Rat) = T at *
    generalize (N : Rat) = l at *
    clear q1 q2 q3 nb np
    grind
  · rw [tri_law (by omega) (by omega) zl M.ok R]
    exact k
end
theorem oinL {v : Nat} {ks : List Nat} {S : Sto} {P : PD} (h : P (.bl (decide (v ∈ ks))) S) : oIn (.int (v : Int)) (.lst (ks.map kD)) S P := by
  have ok : okD (.lst (ks.map kD)) = true := by
    have := ok_ints (ks.map fun k : Nat => (k : Int))
    rw [List.map_map] at this
    exact this
  refine ⟨_, rfl, ok_int v, ok, ?_⟩
  have e : ∀ ks : List Nat, ((toPL (ks.map kD)).any fun z => PyData.eqv z (toP (res S (.int (v : Int))))) = decide (v ∈ ks) := fun ks => by
    show ((toPL (ks.map kD)).any fun z => PyData.eqv z (.int (v : Int))) = _
    induction ks with
    | nil => simp [toPL]
    | cons a ks ih =>
      rw [List.map_cons]
      show (PyData.eqv (.int (a : Int)) (.int (v : Int)) || (toPL (ks.map kD)).any fun z => PyData.eqv z (.int (v : Int))) = _
      rw [ih, eqv_int, Bool.eq_iff_iff]
      simp only [Bool.or_eq_true, decide_eq_true_eq, List.mem_cons]
      exact or_congr ⟨fun h => by omega, fun h => by omega⟩ Iff.rfl
  rw [e]; exact h
theorem shw_uni {n v : Nat} (hn : n ≤ 100) : Shw (FQ (uni n v)) := by
  have a := (ShL.all (ds := (uni n v).map DQ) (k := 1) (w := 2 * 20 + 14) fun d hd => by
    obtain ⟨q, hq, rfl⟩ := List.mem_map.mp hd
    have s : Sz 20 q := by
      unfold uni at hq
      obtain ⟨k, _, rfl⟩ := List.mem_map.mp hq
      by_cases c : k = v
      · rw [if_pos c]; exact ⟨by unfold Bd; decide, by unfold Bd; decide⟩
      · rw [if_neg c]; exact ⟨by unfold Bd; decide, by unfold Bd; decide⟩
    exact Sh.q s (by decide)).tup
  refine a.to (by decide) ?_
  have : (uni n v).length = n := by unfold uni; rw [List.length_map, List.length_range]
  rw [List.length_map, this]
  omega
theorem xmk {cn : Str} {ks : List Str} {was : WA} {r : PL.Env} {S : Sto} {P : PD} {X : PX} : wMk cn ks was r S P X = was r S (fun ds S1 => ds.length = ks.length ∧ P (.obj cn ks ds) S1) X := id rfl
theorem k_made {sp : List PT} {tr : List TR} {b : Int} {B n m : Nat} {S : Sto} {P : PD} {X : PX} (hs : n ≤ 40 ∧ m ≤ 100) (M : MO B n m sp tr) (hb : 1 ≤ b ∧ b ≤ 64) (k : ∀ tr', MO B n m sp tr' → RotP tr tr' → P (.tup [PL' (ovP b sp), TL tr']) S) : c__law_made [RS sp, RT tr, .int b] S P X := ⟨sp, tr, b, B, n, m, rfl, hs, M, hb.1, hb.2, k⟩
theorem w23 {a0 a1 a2 a3 a4 a5 a6 a7 a8 a9 a10 a11 a12 a13 a14 a15 a16 a17 a18 a19 a20 a21 a22 a23 : Option D} : wipeD [a0, a1, a2, a3, a4, a5, a6, a7, a8, a9, a10, a11, a12, a13, a14, a15, a16, a17, a18, a19, a20, a21, a22, a23] [23] = [a0, a1, a2, a3, a4, a5, a6, a7, a8, a9, a10, a11, a12, a13, a14, a15, a16, a17, a18, a19, a20, a21, a22, none] := id rfl
theorem w202122 {a0 a1 a2 a3 a4 a5 a6 a7 a8 a9 a10 a11 a12 a13 a14 a15 a16 a17 a18 a19 a20 a21 a22 a23 : Option D} : wipeD [a0, a1, a2, a3, a4, a5, a6, a7, a8, a9, a10, a11, a12, a13, a14, a15, a16, a17, a18, a19, a20, a21, a22, a23] [20, 21, 22] = [a0, a1, a2, a3, a4, a5, a6, a7, a8, a9, a10, a11, a12, a13, a14, a15, a16, a17, a18, a19, none, none, none, a23] := id rfl
theorem num_mul' (q : Rat) (x : Int) : Rat.divInt (x * q.num) (q.den : Int) = q * (x : Rat) := by
  have h := Rat.num_divInt_den q
  rw [div_k] at h ⊢
  have nz : ((q.den : Int) : Rat) ≠ 0 := cast_ne (den_ne q)
  rw [Rat.intCast_mul]
  conv => rhs; rw [← h]
  generalize ((q.den : Int) : Rat) = d at *
  generalize (q.num : Rat) = n at *
  generalize (x : Rat) = k at *
  grind
section
variable {E : EndD} {Y : XS} {S : Sto} {sp : List PT} {ps : List (Rat × Rat)} {tr : List TR} {fs : List Rat} {ks : List Nat} {G : Nat → Rat} {z0 z1 z3 z5 z6 z8 z10 z11 z12 z13 z14 z15 : Option D}
theorem law_body {v : Nat} {q : Rat} {z18 z19 z20 z21 z22 z23 : Option D} (hl : sp.length ≤ 40) (pl : ps.length = sp.length) (hv' : v < sp.length)
    (fl : ∀ {S : Sto} {P : PD} {X : PX}, P (DQ (G v)) S → c_mixed_energy [MD ps tr, FQ fs, FQ (uni sp.length v)] S P X) (sz : Sz 1900 (G v)) (sq : Sz 1900 q) (zero : v ∈ ks → G v = 0)
    (nx : ∀ z18 z19 z20 z21 z22 z23, E.nx [z0, z1, some (MD ps tr), z3, some (FQ fs), z5, z6, some (.int (v : Int)), z8, some (RS sp), z10, z11, z12, z13, z14, z15, some (.lst (ks.map kD)), some (DQ (q + G v)), z18, z19, z20, z21, z22, z23] S) :
    w_law_14 E Y [z0, z1, some (MD ps tr), z3, some (FQ fs), z5, z6, some (.int (v : Int)), z8, some (RS sp), z10, z11, z12, z13, z14, z15, some (.lst (ks.map kD)), some (DQ q), z18, z19, z20, z21, z22, z23] S := by
  have es : ∀ {S : Sto} {P : PD}, oLen [RS sp] S P = P (.int (sp.length : Nat)) S := fun {S P} => by rw [show RS sp = .lst (sp.map DI) from rfl, len_lst, List.length_map]
  have su : Shw (FQ (uni sp.length v)) := shw_uni (by omega)
  simp only [w_law_14, xseq, w_law_13, xset, xcall, xcons, xnil, v2, PL.v7]
  refine ⟨ps, tr, v, rfl, by omega, ?_⟩
  rw [pl]
  simp only [g18, w_law_12, xseq, w_law_11, xsif, xnotB, xtru, xcall, xcons, xnil, xn, v18]
  refine lcM_go (fun k : Nat => .int (k : Int)) (fun k => DQ (if k = v then 1 else 0)) (List.range sp.length) (fun Q hq => ?_) (le_line (by rw [List.length_range]; omega)) (fun k hk S1 R hR => ?_) ?_
  · simp only [xrngA, xcons, xnil, xn, PL.v9, es]
    refine ⟨by omega, ?_⟩
    rw [Int.toNat_natCast]
    have e : intsD 0 sp.length = (List.range sp.length).map fun i : Nat => D.int (i : Int) := by
      unfold intsD
      refine List.map_congr_left fun i _ => ?_
      rw [Int.zero_add]
    rw [e]; exact hq
  · simp only [w23, PL.g23, xif, xbl, x2, v23, PL.v7, xc, oeqI]
    by_cases c : k = v
    · have c' : (k : Int) = v := by omega
      rw [if_pos c] at hR
      simp only [decide_eq_true c', if_true, xtup, xcons, xnil, xc]
      refine ⟨two_line, ?_⟩
      exact hR
    · have c' : ¬ (k : Int) = v := by omega
      rw [if_neg c] at hR
      simp only [decide_eq_false c', Bool.false_eq_true, if_false, xtup, xcons, xnil, xc]
      refine ⟨two_line, ?_⟩
      rw [lit01]
      exact hR
  have e : (List.range sp.length).map (fun k => DQ (if k = v then 1 else 0)) = (uni sp.length v).map DQ := by unfold uni; rw [List.map_map]; rfl
  rw [e, tup_lst]
  refine k__law_same rfl su ?_
  simp only [Bool.not_true, Bool.false_eq_true, if_false, xskip, w_law_9, xseq, w_law_8, xsif, xbl, x2, xcall, xcons, xnil, v2, PL.v7]
  show c_unit_field [MD ps tr, .int (v : Int)] _ _ _
  refine ⟨ps, tr, v, rfl, by omega, ?_⟩
  rw [pl]
  simp only [v18]
  rw [one_self su]
  simp only [Bool.false_eq_true, if_false, xskip, w_law_6, xseq, w_law_5, xset, xcall, xcons, xnil, v2, v4, v18]
  refine fl ?_
  simp only [g19, w_law_4, xseq, w_law_3, xset, xcall, xcons, xnil, v17, v19]
  refine k_lplus sq sz ?_
  simp only [g17, w_law_2, xsif, xandB, xbl, x2, PL.v7, v16]
  refine oinL ?_
  by_cases c : v ∈ ks
  · rw [decide_eq_true c]
    simp only [if_true, xtup, xcons, xnil, xc, v19]
    refine ⟨two_line, ?_⟩
    rw [lit01, oneQ, decide_eq_true (zero c)]
    simp only [Bool.not_true, Bool.false_eq_true, if_false, xskip]
    exact nx _ _ _ _ _ _
  · rw [decide_eq_false c]
    simp only [Bool.false_eq_true, if_false, xskip]
    exact nx _ _ _ _ _ _
theorem law_loop (hl : sp.length ≤ 40) (pl : ps.length = sp.length) {D0' : Int} {K : Nat} (nz : D0' ≠ 0) (bD : Bd 1900 D0') (hK : 40 * K < 2 ^ 1900)
    (fl : ∀ v, v < sp.length → ∀ {S : Sto} {P : PD} {X : PX}, P (DQ (G v)) S → c_mixed_energy [MD ps tr, FQ fs, FQ (uni sp.length v)] S P X) (ov : ∀ v, v < sp.length → Ov D0' K (G v)) (zero : ∀ v, v ∈ ks → G v = 0)
    (nx : ∀ z7 z18 z19 z20 z21 z22 z23, E.nx [z0, z1, some (MD ps tr), z3, some (FQ fs), z5, z6, z7, z8, some (RS sp), z10, z11, z12, z13, z14, z15, some (.lst (ks.map kD)), some (DQ (sQ G (List.range sp.length))), z18, z19, z20, z21, z22, z23] S) :
    ∀ (c v : Nat) (z7 z18 z19 z20 z21 z22 z23 : Option D), v + c = sp.length → Ov D0' (v * K) (sQ G (List.range v)) →
      loopD (gVar 7) w_law_14 E Y (intsD (v : Int) c) [z0, z1, some (MD ps tr), z3, some (FQ fs), z5, z6, z7, z8, some (RS sp), z10, z11, z12, z13, z14, z15, some (.lst (ks.map kD)), some (DQ (sQ G (List.range v))), z18, z19, z20, z21, z22, z23] S
  | 0, v, z7, z18, z19, z20, z21, z22, z23, e, O => by
    rw [Nat.add_zero] at e
    subst e
    exact nx _ _ _ _ _ _ _
  | c + 1, v, z7, z18, z19, z20, z21, z22, z23, e, O => by
    have hv' : v < sp.length := by omega
    rw [ints_cons]
    simp only [xloop, PL.g7]
    have k1 : v * K ≤ 40 * K := Nat.mul_le_mul_right _ (by omega)
    refine law_body hl pl hv' (fl v hv') ((ov v hv').sz nz bD (by omega)) (O.sz nz bD (by omega)) (zero v) fun z18 z19 z20 z21 z22 z23 => ?_
    have er : sQ G (List.range v) + G v = sQ G (List.range (v + 1)) := by rw [List.range_succ, sQ_app, sQ_one]
    rw [er, show (v : Int) + 1 = ((v + 1 : Nat) : Int) by omega]
    refine law_loop hl pl nz bD hK fl ov zero nx c (v + 1) _ _ _ _ _ _ _ (by omega) ?_
    rw [← er, Nat.succ_mul]
    exact O.add (ov v hv')
end
theorem ar_sum {sp : List PT} {tr : List TR} : (tr.map fun t => trn (spt sp t.1) (spt sp t.2.1) (spt sp t.2.2)).sum = arT sp tr := rfl
theorem ar_bd {sp : List PT} (B : bdP 2000 sp) : ∀ {tr : List TR}, (∀ t ∈ tr, triOk sp t) → (arT sp tr).natAbs ≤ tr.length * 2 ^ 31
  | [], _ => Nat.zero_le _
  | t :: ts, h => by
    have ih := ar_bd B fun u hu => h u (List.mem_cons_of_mem _ hu)
    obtain ⟨⟨t1, t2, t3⟩, _⟩ := h t List.mem_cons_self
    have q3 : (trn (spt sp t.1) (spt sp t.2.1) (spt sp t.2.2)).natAbs ≤ 2 ^ 31 := Nat.le_of_lt (bd_tr' (B := 2000) (by decide) (bd_at B t1) (bd_at B t2) (bd_at B t3))
    unfold arT at ih ⊢
    rw [List.map_cons, List.sum_cons, List.length_cons]
    omega
theorem does_law : Does c_law w_law N_law 1 := by
  rintro ds S P X ⟨ns, hl, hbits, rfl, h0, h⟩
  refine ⟨rfl, ?_⟩
  show w_law_39 _ _ [some (D0 ns), none, none, none, none, none, none, none, none, none, none, none, none, none, none, none, none, none, none, none, none, none, none, none] S
  simp only [w_law_39, xseq, w_law_38, xset, xcall, xcons, xnil, v0]
  refine ⟨ns, rfl, hl, fun p q S1 _ _ hd1 _ => ?_⟩
  simp only [g1, w_law_37, xseq, w_law_36, xset, xcall, xcons, xnil, v1]
  refine ⟨p, q, rfl, hd1, fun b sp tr0 S2 b0 b1 M0 hd2 _ => ?_⟩
  show gTupD 3 _ (.tup [.int b, RS sp, RT tr0]) _ _ _ _
  rw [g3p]
  simp only [List.set_cons_succ, List.set_cons_zero, w_law_35, xseq, w_law_34, xset, xcall, xcons, xnil, PL.v8, PL.v9, v10]
  refine k_made ⟨by decide, by decide⟩ M0 ⟨b0, b1⟩ fun tr M R => ?_
  show gTupD 2 _ (.tup [PL' (ovP b sp), TL tr]) _ _ _ _
  rw [g2p]
  have sl := M.ls
  have tl := M.lt
  have tl0 := M0.lt
  have pl := ov_len b sp
  simp only [List.set_cons_succ, List.set_cons_zero, w_law_33, xseq, w_law_32, xset, xcons, xnil, xmk, v11, v12]
  refine ⟨rfl, ?_⟩
  show gVar 2 (MD (ovP b sp) tr) _ _ _ _
  simp only [g2, w_law_31, xseq, w_law_30, xset, x2, xcall, xcons, xnil, v1, xc]
  refine k_any hd2 (by decide) (by decide) fun L0 S3 L00 L01 hd3 f3 => ?_
  obtain ⟨L, hL0⟩ : ∃ L : Int, 1 + L0 = L := ⟨_, rfl⟩
  simp only [oaddI]
  rw [hL0]
  have hL : 1 ≤ L ∧ L ≤ 6 := by omega
  simp only [g3, w_law_29, xseq, w_law_28, xpar3, x2, xcall, xcons, xnil, xlst, v1, xc]
  refine k_any hd3 (by decide) (by decide) fun s0 S4 s00 s01 hd4 f4 => ?_
  simp only [osubI]
  refine k_any hd4 (by decide) (by decide) fun r0 S5 r00 r01 hd5 f5 => ?_
  simp only [osubI]
  refine ⟨le_line (by simp), k_pick hd5 (by simp) (by simp) fun d hdm S6 hd6 f6 => ?_⟩
  obtain ⟨r, rfl, hr⟩ : ∃ r : Int, d = .int r ∧ r.natAbs ≤ 10 := by
    simp only [List.mem_cons, List.not_mem_nil, or_false] at hdm
    rcases hdm with rfl | rfl | rfl
    · exact ⟨0, rfl, by decide⟩
    · exact ⟨1, rfl, by decide⟩
    · exact ⟨_, rfl, by omega⟩
  refine k_any hd6 (by decide) (by decide) fun u0 S7 u00 u01 hd7 f7 => ?_
  simp only [osubI]
  obtain ⟨s, hs0⟩ : ∃ s : Int, s0 - 20 = s := ⟨_, rfl⟩
  obtain ⟨u, hu0⟩ : ∃ u : Int, u0 - 10 = u := ⟨_, rfl⟩
  rw [hs0, hu0]
  have hs : s.natAbs ≤ 20 := by omega
  have hu : u.natAbs ≤ 10 := by omega
  have bL : Bd 5 L := bd_pow (m := 6) (by omega) (by decide)
  have sz5 : ∀ {x : Int}, x.natAbs ≤ 20 → Sz 5 (Rat.divInt x L) := fun hx => Sz.divInt (bd_pow (m := 20) hx (by decide)) bL (by omega)
  have hp := ov_sz ⟨b0, b1⟩ M.bd
  have kl : ∀ {x : Int} {S : Sto} {P : PD} {X : PX}, P (DQ (Rat.divInt x L)) S → c__law_low [.int x, .int L] S P X := fun h => k__law_low (bL.mono (by decide)) (by omega) h
  simp only [List.set_cons_succ, List.set_cons_zero, w_law_27, xseq, w_law_26, xset, xcall, xcons, xnil, v2, v3, v13, v14, v15]
  refine kl (kl (kl ?_))
  refine ⟨ovP b sp, tr, _, _, _, rfl, by rw [pl]; omega, hp, sz5 hs, sz5 (by omega), sz5 (by omega), ?_⟩
  rw [li_field (by omega) (by omega)]
  have zl := li_len b s r u sp
  have zb := li_bd (b := b) ⟨b0, b1⟩ hs hr hu M.bd
  have hN : 1 ≤ L * b ∧ L * b ≤ 400 := by
    have a1 : 0 < L * b := Int.mul_pos (by omega) (by omega)
    have a2 : (L * b).natAbs ≤ 6 * 64 := sm_mul (by omega) (by omega)
    omega
  have ls := li_sum (b := b) (s := s) (r := r) (u := u) M0.ok
  have due := li_due (b := b) (L := L) (by omega) (by omega) ls
  have en := fun {S : Sto} {P : PD} {X : PX} => k_en (b := b) (N := L * b) (S := S) (P := P) (X := X) (show 16 ≤ 40 by decide) (Nat.le_refl _) ⟨b0, b1⟩ hN M0 R zl zb
  have et := fun {S : Sto} {P : PD} {X : PX} => k_tr (b := b) (N := L * b) (s := s) (S := S) (P := P) (X := X) (show 16 ≤ 40 by decide) (Nat.le_refl _) ⟨b0, b1⟩ hN hr hu M0 R zb
  have em := fun {S : Sto} {P : PD} {X : PX} => k_mx (b := b) (N := L * b) (S := S) (P := P) (X := X) (show 16 ≤ 40 by decide) (Nat.le_refl _) ⟨b0, b1⟩ hN M0 R zl zb
  rw [due] at en et
  rw [li_two (by omega), due] at em
  have eu : ∀ v, v < sp.length → ∀ {S : Sto} {P : PD} {X : PX}, P (DQ (sQ (flT sp (liZ b s r u sp) v) tr0 / ((L * b : Int) : Rat))) S → c_mixed_energy [MD (ovP b sp) tr, FQ (fdQ (L * b) (liZ b s r u sp)), FQ (uni sp.length v)] S P X :=
    fun v _ {S P X} => k_un (b := b) (N := L * b) (S := S) (P := P) (X := X) (show 16 ≤ 40 by decide) (Nat.le_refl _) ⟨b0, b1⟩ hN M0 R zl zb
  have ev : ∀ v, v < sp.length → Ov (2 * (L * b)) 4320000 (sQ (flT sp (liZ b s r u sp) v) tr0 / ((L * b : Int) : Rat)) := fun v _ => flow_ov hr hu M0.bd M0.ok tl0
  have ez : ∀ v, InnP tr0 v → sQ (flT sp (liZ b s r u sp) v) tr0 / ((L * b : Int) : Rat) = 0 := fun v hI => by
    rw [fl_inn M0.fl M0.ok hI]; grind
  have ea : sQ (fun v => sQ (flT sp (liZ b s r u sp) v) tr0 / ((L * b : Int) : Rat)) (List.range sp.length) = 0 := by
    rw [sQ_div, fl_all M0.ok]; grind
  generalize liZ b s r u sp = zs at *
  clear ls due
  have q1 : (r * r).natAbs ≤ 10 * 10 := sm_mul hr hr
  have q2 : (u * u).natAbs ≤ 10 * 10 := sm_mul hu hu
  have ab := ar_bd M0.bd M0.ok
  have bA : Bd 40 (arT sp tr0) := bd_pow ab (by
    have : tr0.length * 2 ^ 31 ≤ 18 * 2 ^ 31 := Nat.mul_le_mul_right _ tl0
    omega)
  have br : Bd 20 r := bd_s (by omega) (by decide)
  have bu : Bd 20 u := bd_s (by omega) (by decide)
  have bs : Bd 20 (r * r + u * u) := bd_s (by omega) (by decide)
  have bl : Bd 20 L := bd_s (by omega) (by decide)
  have bb : Bd 20 b := bd_s (by omega) (by decide)
  have c4 : Bd 20 (4 : Int) := bd_s (by decide) (by decide)
  have c2 : Bd 20 (2 : Int) := bd_s (by decide) (by decide)
  have dp : 0 < 4 * L * L * b * b := Int.mul_pos (Int.mul_pos (Int.mul_pos (Int.mul_pos (by decide) (by omega)) (by omega)) (by omega)) (by omega)
  have bd4 : Bd 100 (4 * L * L * b * b) := (((c4.mul bl).mul bl).mul bb).mul bb
  have sD : Sz 100 (Rat.divInt ((r * r + u * u) * arT sp tr0) (4 * L * L * b * b)) := Sz.divInt ((bs.mul bA).mono (by decide)) bd4 (by omega)
  show gVar 4 (FQ (fdQ (L * b) zs)) _ _ _ _
  simp only [g4, w_law_25, xseq, w_law_24, xset, xn, xcons, xnil]
  refine lcM_go TD (fun t => .int (trn (spt sp t.1) (spt sp t.2.1) (spt sp t.2.2))) tr0 (fun Q hq => ?_) (le_line (by omega)) (fun t ht S1 R hR => ?_) ?_
  · simp only [xitems, v10]
    exact hq
  · obtain ⟨⟨t1, t2, t3⟩, _⟩ := M0.ok t ht
    rw [w202122]
    show gTupD 3 _ (.lst [.int (t.1 : Int), .int (t.2.1 : Int), .int (t.2.2 : Int)]) _ _ _ _
    rw [g3l]
    simp only [List.set_cons_succ, List.set_cons_zero, x2, xcall, xcons, xnil, PL.v9, v20, v21, v22, rs_at t1, rs_at t2, rs_at t3]
    exact k_crs (B := 2000) (by omega) (bd_at M.bd t1) (bd_at M.bd t2) (bd_at M.bd t3) hR
  have e1 : (tr0.map fun t => D.int (trn (spt sp t.1) (spt sp t.2.1) (spt sp t.2.2))) = (tr0.map fun t => trn (spt sp t.1) (spt sp t.2.1) (spt sp t.2.2)).map D.int := by rw [List.map_map]; rfl
  rw [e1]
  refine ⟨_, rfl, ?_⟩
  rw [ar_sum]
  simp only [PL.g5, w_law_23, xseq, w_law_22, xset, xcall, xcons, xnil, x2, xc, v3, PL.v5, PL.v8, v14, v15, omulI, oaddI]
  refine ⟨br.cmul br (by decide), bu.cmul bu (by decide), bs.cmul bA (by decide), c4.cmul bl (by decide), (c4.mul bl).cmul bl (by decide), ((c4.mul bl).mul bl).cmul bb (by decide), (((c4.mul bl).mul bl).mul bb).cmul bb (by decide), k__law_low (bd4.mono (by decide)) dp ?_⟩
  generalize Rat.divInt ((r * r + u * u) * arT sp tr0) (4 * L * L * b * b) = due at *
  have dshw : Shw (DQ due) := shw_q sD (by decide)
  simp only [g6, w_law_21, xseq, w_law_20, xsif, xorB, xnotB, xtru, xbl, x2, xcall, xcons, xnil, v2, v4, v6]
  refine en (k__law_same rfl dshw ?_)
  simp only [Bool.not_true, Bool.false_eq_true, if_false]
  refine et ?_
  rw [one_self dshw]
  simp only [Bool.false_eq_true, if_false, xskip, w_law_18, xseq, w_law_17, xpar2, xcall, xcons, xnil, xtup, xc, PL.v9, v10]
  refine ⟨sp, tr0, 16, 18, rfl, ⟨by decide, by decide⟩, M0, fun ks hk lk => ⟨two_line, ?_⟩⟩
  have es : ∀ {S : Sto} {P : PD}, oLen [RS sp] S P = P (.int (sp.length : Nat)) S := fun {S P} => by rw [show RS sp = .lst (sp.map DI) from rfl, len_lst, List.length_map]
  simp only [List.set_cons_succ, List.set_cons_zero, w_law_16, xseq, w_law_15, xfor, xrngA, xcons, xnil, xn, PL.v9, es]
  refine ⟨by omega, ?_⟩
  rw [Int.toNat_natCast, lit01]
  refine law_loop (G := fun v => sQ (flT sp zs v) tr0 / ((L * b : Int) : Rat)) (by omega) pl (D0' := 2 * (L * b)) (K := 4320000) (by omega) (bd_pow (m := 800) (by omega) (by decide +kernel)) (by decide +kernel) eu ev (fun v hv => ez v (hk v hv).2) ?_ sp.length 0 _ _ _ _ _ _ _ (by omega) (Ov.zero _ _)
  intro z7 z18 z19 z20 z21 z22 z23
  rw [ea]
  simp only [w_law_0, xret, xandV, x2, xcall, xcons, xnil, xtup, xc, v2, v4, v6, v17]
  refine ⟨two_line, ?_⟩
  rw [lit01, oeqQ]
  simp only [decide_true, if_true]
  refine em ?_
  simp only [oidxQ0, oidxQ1, omulI]
  refine ⟨c2.cmul sD.1 (by decide), k__law_low (sD.2.mono (by decide)) (den_pos due) ?_⟩
  rw [num_mul', show ((2 : Int) : Rat) = 2 from rfl, Rat.mul_comm due 2, oeqQ]
  simp only [decide_true]
  exact ⟨S7, Sub.refl _, h S7⟩
def top (i : Nat) : Stmt := PySem.Challenge.pw_leastfield_k43_whole_linear_fields.main.body.getD i (.Pass ⟨0, 0, 0, 0⟩)
def meth (i j : Nat) : Stmt := match top i with
  | .ClassDef _ _ _ b _ _ _ _ _ _ _ => b.getD j (.Pass ⟨0, 0, 0, 0⟩)
  | s => s
def G_fraction : Gs := { fns := [], blt := [], imp := [("gcd", "math.gcd")], cst := [], exc := [("InvalidSize", "word")], cls := [], sub := fun _ _ => false, flds := [], muts := [] }
theorem sc_fraction : FnScope N_fraction ["top", "bottom"] (defScope (top 7)) := C8.fnScope_by (by decide +kernel)
theorem tr_fraction : trSs G_fraction 60 N_fraction (defScope (top 7)) (defBody (top 7)) = some w_fraction := by kernel_rfl
def G__law_source : Gs := { fns := [], blt := ["int", "abs"], imp := [], cst := [], exc := [], cls := [], sub := fun _ _ => false, flds := [], muts := [(103, 11), (103, 12)] }
theorem sc__law_source : FnScope N__law_source ["_law_script"] (defScope (top 36)) := C8.fnScope_by (by decide +kernel)
theorem tr__law_source : trSs G__law_source 60 N__law_source (defScope (top 36)) (defBody (top 36)) = some w__law_source := by kernel_rfl
def G__law_any : Gs := { fns := [], blt := ["int"], imp := [], cst := [], exc := [], cls := [], sub := fun _ _ => false, flds := [], muts := [] }
theorem sc__law_any : FnScope N__law_any ["_law_deal", "_law_bound"] (defScope (top 37)) := C8.fnScope_by (by decide +kernel)
theorem tr__law_any : trSs G__law_any 60 N__law_any (defScope (top 37)) (defBody (top 37)) = some w__law_any := by kernel_rfl
def G__law_common : Gs := { fns := [], blt := ["range", "int", "abs"], imp := [], cst := [], exc := [], cls := [], sub := fun _ _ => false, flds := [], muts := [] }
theorem sc__law_common : FnScope N__law_common ["_law_one", "_law_other_here"] (defScope (top 39)) := C8.fnScope_by (by decide +kernel)
theorem tr__law_common : trSs G__law_common 60 N__law_common (defScope (top 39)) (defBody (top 39)) = some w__law_common := by kernel_rfl
def G__law_same : Gs := { fns := [], blt := ["repr"], imp := [], cst := [], exc := [], cls := [], sub := fun _ _ => false, flds := [], muts := [] }
theorem sc__law_same : FnScope N__law_same ["_law_told", "_law_due"] (defScope (top 41)) := C8.fnScope_by (by decide +kernel)
theorem tr__law_same : trSs G__law_same 60 N__law_same (defScope (top 41)) (defBody (top 41)) = some w__law_same := by kernel_rfl
def G__law_cross : Gs := { fns := [], blt := [], imp := [], cst := [], exc := [], cls := [], sub := fun _ _ => false, flds := [], muts := [] }
theorem sc__law_cross : FnScope N__law_cross ["_law_a", "_law_b", "_law_c"] (defScope (top 42)) := C8.fnScope_by (by decide +kernel)
theorem tr__law_cross : trSs G__law_cross 60 N__law_cross (defScope (top 42)) (defBody (top 42)) = some w__law_cross := by kernel_rfl
def G__law_third : Gs := { fns := [], blt := [], imp := [], cst := [], exc := [], cls := [], sub := fun _ _ => false, flds := [], muts := [] }
theorem sc__law_third : FnScope N__law_third ["_law_triples", "_law_one", "_law_other_here"] (defScope (top 45)) := C8.fnScope_by (by decide +kernel)
theorem tr__law_third : trSs G__law_third 60 N__law_third (defScope (top 45)) (defBody (top 45)) = some w__law_third := by kernel_rfl
def G__law_edges : Gs := { fns := [], blt := ["sorted", "set", "max", "min"], imp := [], cst := [], exc := [], cls := [], sub := fun _ _ => false, flds := [], muts := [] }
theorem sc__law_edges : FnScope N__law_edges ["_law_triples"] (defScope (top 52)) := C8.fnScope_by (by decide +kernel)
theorem tr__law_edges : trSs G__law_edges 60 N__law_edges (defScope (top 52)) (defBody (top 52)) = some w__law_edges := by kernel_rfl
def G_plus : Gs := { fns := [⟨"fraction", ["top", "bottom"], c_fraction, [(2, [])]⟩], blt := [], imp := [], cst := [], exc := [], cls := [], sub := fun _ _ => false, flds := [], muts := [] }
theorem sc_plus : FnScope N_plus ["one", "other"] (defScope (top 8)) := C8.fnScope_by (by decide +kernel)
theorem tr_plus : trSs G_plus 60 N_plus (defScope (top 8)) (defBody (top 8)) = some w_plus := by kernel_rfl
def G_minus : Gs := { fns := [⟨"fraction", ["top", "bottom"], c_fraction, [(2, [])]⟩], blt := [], imp := [], cst := [], exc := [], cls := [], sub := fun _ _ => false, flds := [], muts := [] }
theorem sc_minus : FnScope N_minus ["one", "other"] (defScope (top 9)) := C8.fnScope_by (by decide +kernel)
theorem tr_minus : trSs G_minus 60 N_minus (defScope (top 9)) (defBody (top 9)) = some w_minus := by kernel_rfl
def G_times : Gs := { fns := [⟨"fraction", ["top", "bottom"], c_fraction, [(2, [])]⟩], blt := [], imp := [], cst := [], exc := [], cls := [], sub := fun _ _ => false, flds := [], muts := [] }
theorem sc_times : FnScope N_times ["one", "other"] (defScope (top 10)) := C8.fnScope_by (by decide +kernel)
theorem tr_times : trSs G_times 60 N_times (defScope (top 10)) (defBody (top 10)) = some w_times := by kernel_rfl
def G_over : Gs := { fns := [⟨"fraction", ["top", "bottom"], c_fraction, [(2, [])]⟩], blt := [], imp := [], cst := [], exc := [], cls := [], sub := fun _ _ => false, flds := [], muts := [] }
theorem sc_over : FnScope N_over ["one", "other"] (defScope (top 11)) := C8.fnScope_by (by decide +kernel)
theorem tr_over : trSs G_over 60 N_over (defScope (top 11)) (defBody (top 11)) = some w_over := by kernel_rfl
def G_half : Gs := { fns := [⟨"fraction", ["top", "bottom"], c_fraction, [(2, [])]⟩], blt := [], imp := [], cst := [], exc := [], cls := [], sub := fun _ _ => false, flds := [], muts := [] }
theorem sc_half : FnScope N_half ["one"] (defScope (top 12)) := C8.fnScope_by (by decide +kernel)
theorem tr_half : trSs G_half 60 N_half (defScope (top 12)) (defBody (top 12)) = some w_half := by kernel_rfl
def G__law_of : Gs := { fns := [⟨"_law_any", ["_law_deal", "_law_bound"], c__law_any, [(2, [])]⟩], blt := ["len"], imp := [], cst := [], exc := [], cls := [], sub := fun _ _ => false, flds := [], muts := [] }
theorem sc__law_of : FnScope N__law_of ["_law_deal", "_law_some"] (defScope (top 38)) := C8.fnScope_by (by decide +kernel)
theorem tr__law_of : trSs G__law_of 60 N__law_of (defScope (top 38)) (defBody (top 38)) = some w__law_of := by kernel_rfl
def G__law_low : Gs := { fns := [⟨"_law_common", ["_law_one", "_law_other_here"], c__law_common, [(2, [])]⟩], blt := ["int"], imp := [], cst := [], exc := [], cls := [], sub := fun _ _ => false, flds := [], muts := [] }
theorem sc__law_low : FnScope N__law_low ["_law_top", "_law_bottom"] (defScope (top 40)) := C8.fnScope_by (by decide +kernel)
theorem tr__law_low : trSs G__law_low 60 N__law_low (defScope (top 40)) (defBody (top 40)) = some w__law_low := by kernel_rfl
def G__law_split : Gs := { fns := [⟨"_law_any", ["_law_deal", "_law_bound"], c__law_any, [(2, [])]⟩], blt := ["len"], imp := [], cst := [], exc := [], cls := [], sub := fun _ _ => false, flds := [], muts := [] }
theorem sc__law_split : FnScope N__law_split ["_law_deal", "_law_spots", "_law_triples"] (defScope (top 43)) := C8.fnScope_by (by decide +kernel)
theorem tr__law_split : trSs G__law_split 60 N__law_split (defScope (top 43)) (defBody (top 43)) = some w__law_split := by kernel_rfl
def G__law_grid : Gs := { fns := [⟨"_law_any", ["_law_deal", "_law_bound"], c__law_any, [(2, [])]⟩], blt := ["range", "int"], imp := [], cst := [], exc := [], cls := [], sub := fun _ _ => false, flds := [], muts := [(137, 29), (137, 24)], frz := [(143, 4, "_law_xs"), (143, 4, "_law_ys")] }
theorem sc__law_grid : FnScope N__law_grid ["_law_deal", "_law_wide", "_law_high", "_law_gap"] (defScope (top 44)) := C8.fnScope_by (by decide +kernel)
theorem tr__law_grid : trSs G__law_grid 60 N__law_grid (defScope (top 44)) (defBody (top 44)) = some w__law_grid := by kernel_rfl
def G__law_other : Gs := { fns := [⟨"_law_cross", ["_law_a", "_law_b", "_law_c"], c__law_cross, [(3, [])]⟩, ⟨"_law_third", ["_law_triples", "_law_one", "_law_other_here"], c__law_third, [(3, [])]⟩], blt := ["sorted"], imp := [], cst := [], exc := [], cls := [], sub := fun _ _ => false, flds := [], muts := [] }
theorem sc__law_other : FnScope N__law_other ["_law_spots", "_law_triples", "_law_one", "_law_other_here"] (defScope (top 46)) := C8.fnScope_by (by decide +kernel)
theorem tr__law_other : trSs G__law_other 60 N__law_other (defScope (top 46)) (defBody (top 46)) = some w__law_other := by kernel_rfl
def G__law_moved : Gs := { fns := [⟨"_law_any", ["_law_deal", "_law_bound"], c__law_any, [(2, [])]⟩], blt := ["range", "list"], imp := [], cst := [], exc := [], cls := [], sub := fun _ _ => false, flds := [], muts := [(169, 2000029)], frz := [(174, 4, "_law_found")] }
theorem sc__law_moved : FnScope N__law_moved ["_law_deal", "_law_bottom", "_law_spots", "_law_wide", "_law_high"] (defScope (top 47)) := C8.fnScope_by (by decide +kernel)
theorem tr__law_moved : trSs G__law_moved 60 N__law_moved (defScope (top 47)) (defBody (top 47)) = some w__law_moved := by kernel_rfl
def G__law_fan : Gs := { fns := [⟨"_law_any", ["_law_deal", "_law_bound"], c__law_any, [(2, [])]⟩], blt := ["range", "int"], imp := [], cst := [], exc := [], cls := [], sub := fun _ _ => false, flds := [], muts := [(177, 17)], frz := [(181, 4, "_law_spots")] }
theorem sc__law_fan : FnScope N__law_fan ["_law_deal", "_law_bottom"] (defScope (top 48)) := C8.fnScope_by (by decide +kernel)
theorem tr__law_fan : trSs G__law_fan 60 N__law_fan (defScope (top 48)) (defBody (top 48)) = some w__law_fan := by kernel_rfl
def G__law_inner : Gs := { fns := [⟨"_law_third", ["_law_triples", "_law_one", "_law_other_here"], c__law_third, [(3, [])]⟩, ⟨"_law_edges", ["_law_triples"], c__law_edges, [(1, [])]⟩], blt := ["range", "len"], imp := [], cst := [], exc := [], cls := [], sub := fun _ _ => false, flds := [], muts := [(229, 17)], frz := [(235, 4, "_law_found")] }
theorem sc__law_inner : FnScope N__law_inner ["_law_spots", "_law_triples"] (defScope (top 56)) := C8.fnScope_by (by decide +kernel)
theorem tr__law_inner : trSs G__law_inner 60 N__law_inner (defScope (top 56)) (defBody (top 56)) = some w__law_inner := by kernel_rfl
def G__way : Gs := { fns := [⟨"minus", ["one", "other"], c_minus, [(2, [])]⟩], blt := [], imp := [], cst := [], exc := [], cls := [], sub := fun _ _ => false, flds := [], muts := [] }
theorem sc__way : FnScope N__way ["a", "b"] (defScope (top 14)) := C8.fnScope_by (by decide +kernel)
theorem tr__way : trSs G__way 60 N__way (defScope (top 14)) (defBody (top 14)) = some w__way := by kernel_rfl
def G__cross : Gs := { fns := [⟨"minus", ["one", "other"], c_minus, [(2, [])]⟩, ⟨"times", ["one", "other"], c_times, [(2, [])]⟩], blt := [], imp := [], cst := [], exc := [], cls := [], sub := fun _ _ => false, flds := [], muts := [] }
theorem sc__cross : FnScope N__cross ["one", "other"] (defScope (top 15)) := C8.fnScope_by (by decide +kernel)
theorem tr__cross : trSs G__cross 60 N__cross (defScope (top 15)) (defBody (top 15)) = some w__cross := by kernel_rfl
def G__along : Gs := { fns := [⟨"plus", ["one", "other"], c_plus, [(2, [])]⟩, ⟨"times", ["one", "other"], c_times, [(2, [])]⟩], blt := [], imp := [], cst := [], exc := [], cls := [], sub := fun _ _ => false, flds := [], muts := [] }
theorem sc__along : FnScope N__along ["one", "other"] (defScope (top 16)) := C8.fnScope_by (by decide +kernel)
theorem tr__along : trSs G__along 60 N__along (defScope (top 16)) (defBody (top 16)) = some w__along := by kernel_rfl
def G_corners_at : Gs := { fns := [], blt := [], imp := [], cst := [], exc := [], cls := [], sub := fun _ _ => false, flds := [], muts := [], obj := [("Mesh", ["points", "triangles"])] }
theorem sc_corners_at : FnScope N_corners_at ["mesh", "number"] (defScope (top 21)) := C8.fnScope_by (by decide +kernel)
theorem tr_corners_at : trSs G_corners_at 60 N_corners_at (defScope (top 21)) (defBody (top 21)) = some w_corners_at := by kernel_rfl
def G_worths_at : Gs := { fns := [], blt := ["tuple"], imp := [], cst := [], exc := [], cls := [], sub := fun _ _ => false, flds := [], muts := [], obj := [("Mesh", ["points", "triangles"])] }
theorem sc_worths_at : FnScope N_worths_at ["mesh", "number", "field"] (defScope (top 23)) := C8.fnScope_by (by decide +kernel)
theorem tr_worths_at : trSs G_worths_at 60 N_worths_at (defScope (top 23)) (defBody (top 23)) = some w_worths_at := by kernel_rfl
def G_linear_field : Gs := { fns := [⟨"plus", ["one", "other"], c_plus, [(2, [])]⟩, ⟨"times", ["one", "other"], c_times, [(2, [])]⟩], blt := ["tuple"], imp := [], cst := [], exc := [], cls := [], sub := fun _ _ => false, flds := [], muts := [], obj := [("Mesh", ["points", "triangles"])] }
theorem sc_linear_field : FnScope N_linear_field ["mesh", "start", "right", "up"] (defScope (top 25)) := C8.fnScope_by (by decide +kernel)
theorem tr_linear_field : trSs G_linear_field 60 N_linear_field (defScope (top 25)) (defBody (top 25)) = some w_linear_field := by kernel_rfl
def G_unit_field : Gs := { fns := [], blt := ["tuple", "range", "len"], imp := [], cst := [("ONE", k_ONE), ("ZERO", k_ZERO)], exc := [], cls := [], sub := fun _ _ => false, flds := [], muts := [], obj := [("Mesh", ["points", "triangles"])] }
theorem sc_unit_field : FnScope N_unit_field ["mesh", "point"] (defScope (top 34)) := C8.fnScope_by (by decide +kernel)
theorem tr_unit_field : trSs G_unit_field 60 N_unit_field (defScope (top 34)) (defBody (top 34)) = some w_unit_field := by kernel_rfl
def G__law_parted : Gs := { fns := [⟨"_law_split", ["_law_deal", "_law_spots", "_law_triples"], c__law_split, [(3, [])]⟩, ⟨"_law_any", ["_law_deal", "_law_bound"], c__law_any, [(2, [])]⟩], blt := ["range"], imp := [], cst := [], exc := [], cls := [], sub := fun _ _ => false, flds := [], muts := [] }
theorem sc__law_parted : FnScope N__law_parted ["_law_deal", "_law_bottom"] (defScope (top 49)) := C8.fnScope_by (by decide +kernel)
theorem tr__law_parted : trSs G__law_parted 60 N__law_parted (defScope (top 49)) (defBody (top 49)) = some w__law_parted := by kernel_rfl
def G__law_flipped : Gs := { fns := [⟨"_law_other", ["_law_spots", "_law_triples", "_law_one", "_law_other_here"], c__law_other, [(4, [])]⟩], blt := [], imp := [], cst := [], exc := [], cls := [], sub := fun _ _ => false, flds := [], muts := [] }
theorem sc__law_flipped : FnScope N__law_flipped ["_law_spots", "_law_triples", "_law_triple"] (defScope (top 51)) := C8.fnScope_by (by decide +kernel)
theorem tr__law_flipped : trSs G__law_flipped 60 N__law_flipped (defScope (top 51)) (defBody (top 51)) = some w__law_flipped := by kernel_rfl
def G__law_made : Gs := { fns := [⟨"_law_low", ["_law_top", "_law_bottom"], c__law_low, [(2, [])]⟩], blt := ["tuple", "sorted", "min"], imp := [], cst := [], exc := [], cls := [], sub := fun _ _ => false, flds := [], muts := [(218, 17)] }
theorem sc__law_made : FnScope N__law_made ["_law_spots", "_law_triples", "_law_bottom"] (defScope (top 53)) := C8.fnScope_by (by decide +kernel)
theorem tr__law_made : trSs G__law_made 60 N__law_made (defScope (top 53)) (defBody (top 53)) = some w__law_made := by kernel_rfl
def G__law_plus : Gs := { fns := [⟨"_law_low", ["_law_top", "_law_bottom"], c__law_low, [(2, [])]⟩], blt := [], imp := [], cst := [], exc := [], cls := [], sub := fun _ _ => false, flds := [], muts := [] }
theorem sc__law_plus : FnScope N__law_plus ["_law_one", "_law_other_here"] (defScope (top 55)) := C8.fnScope_by (by decide +kernel)
theorem tr__law_plus : trSs G__law_plus 60 N__law_plus (defScope (top 55)) (defBody (top 55)) = some w__law_plus := by kernel_rfl
def G_doubled_area : Gs := { fns := [⟨"_cross", ["one", "other"], c__cross, [(2, [])]⟩, ⟨"_way", ["a", "b"], c__way, [(2, [])]⟩], blt := [], imp := [], cst := [], exc := [], cls := [], sub := fun _ _ => false, flds := [], muts := [] }
theorem sc_doubled_area : FnScope N_doubled_area ["a", "b", "c"] (defScope (top 17)) := C8.fnScope_by (by decide +kernel)
theorem tr_doubled_area : trSs G_doubled_area 60 N_doubled_area (defScope (top 17)) (defBody (top 17)) = some w_doubled_area := by kernel_rfl
def G_dot : Gs := { fns := [⟨"_along", ["one", "other"], c__along, [(2, [])]⟩, ⟨"_way", ["a", "b"], c__way, [(2, [])]⟩], blt := [], imp := [], cst := [], exc := [], cls := [], sub := fun _ _ => false, flds := [], muts := [] }
theorem sc_dot : FnScope N_dot ["a", "b", "c"] (defScope (top 18)) := C8.fnScope_by (by decide +kernel)
theorem tr_dot : trSs G_dot 60 N_dot (defScope (top 18)) (defBody (top 18)) = some w_dot := by kernel_rfl
def G__law_mesh : Gs := { fns := [⟨"_law_any", ["_law_deal", "_law_bound"], c__law_any, [(2, [])]⟩, ⟨"_law_flipped", ["_law_spots", "_law_triples", "_law_triple"], c__law_flipped, [(3, [])]⟩, ⟨"_law_of", ["_law_deal", "_law_some"], c__law_of, [(2, [])]⟩, ⟨"_law_fan", ["_law_deal", "_law_bottom"], c__law_fan, [(2, [])]⟩, ⟨"_law_grid", ["_law_deal", "_law_wide", "_law_high", "_law_gap"], c__law_grid, [(4, [])]⟩, ⟨"_law_moved", ["_law_deal", "_law_bottom", "_law_spots", "_law_wide", "_law_high"], c__law_moved, [(5, [])]⟩, ⟨"_law_parted", ["_law_deal", "_law_bottom"], c__law_parted, [(2, [])]⟩], blt := ["range"], imp := [], cst := [], exc := [], cls := [], sub := fun _ _ => false, flds := [], muts := [] }
theorem sc__law_mesh : FnScope N__law_mesh ["_law_deal"] (defScope (top 50)) := C8.fnScope_by (by decide +kernel)
theorem tr__law_mesh : trSs G__law_mesh 60 N__law_mesh (defScope (top 50)) (defBody (top 50)) = some w__law_mesh := by kernel_rfl
def G_slope : Gs := { fns := [⟨"over", ["one", "other"], c_over, [(2, [])]⟩, ⟨"doubled_area", ["a", "b", "c"], c_doubled_area, [(3, [])]⟩, ⟨"minus", ["one", "other"], c_minus, [(2, [])]⟩, ⟨"times", ["one", "other"], c_times, [(2, [])]⟩, ⟨"worths_at", ["mesh", "number", "field"], c_worths_at, [(3, [])]⟩, ⟨"corners_at", ["mesh", "number"], c_corners_at, [(2, [])]⟩], blt := [], imp := [], cst := [], exc := [], cls := [], sub := fun _ _ => false, flds := [], muts := [] }
theorem sc_slope : FnScope N_slope ["mesh", "number", "field"] (defScope (top 24)) := C8.fnScope_by (by decide +kernel)
theorem tr_slope : trSs G_slope 60 N_slope (defScope (top 24)) (defBody (top 24)) = some w_slope := by kernel_rfl
def G_cotangent : Gs := { fns := [⟨"over", ["one", "other"], c_over, [(2, [])]⟩, ⟨"doubled_area", ["a", "b", "c"], c_doubled_area, [(3, [])]⟩, ⟨"dot", ["a", "b", "c"], c_dot, [(3, [])]⟩], blt := [], imp := [], cst := [], exc := [], cls := [], sub := fun _ _ => false, flds := [], muts := [] }
theorem sc_cotangent : FnScope N_cotangent ["a", "b", "c"] (defScope (top 28)) := C8.fnScope_by (by decide +kernel)
theorem tr_cotangent : trSs G_cotangent 60 N_cotangent (defScope (top 28)) (defBody (top 28)) = some w_cotangent := by kernel_rfl
def G_triangle_energy : Gs := { fns := [⟨"times", ["one", "other"], c_times, [(2, [])]⟩, ⟨"plus", ["one", "other"], c_plus, [(2, [])]⟩, ⟨"doubled_area", ["a", "b", "c"], c_doubled_area, [(3, [])]⟩, ⟨"slope", ["mesh", "number", "field"], c_slope, [(3, [])]⟩, ⟨"corners_at", ["mesh", "number"], c_corners_at, [(2, [])]⟩], blt := [], imp := [], cst := [], exc := [], cls := [], sub := fun _ _ => false, flds := [], muts := [] }
theorem sc_triangle_energy : FnScope N_triangle_energy ["mesh", "number", "field"] (defScope (top 26)) := C8.fnScope_by (by decide +kernel)
theorem tr_triangle_energy : trSs G_triangle_energy 60 N_triangle_energy (defScope (top 26)) (defBody (top 26)) = some w_triangle_energy := by kernel_rfl
def G_weights_of : Gs := { fns := [⟨"half", ["one"], c_half, [(1, [])]⟩, ⟨"cotangent", ["a", "b", "c"], c_cotangent, [(3, [])]⟩, ⟨"plus", ["one", "other"], c_plus, [(2, [])]⟩, ⟨"corners_at", ["mesh", "number"], c_corners_at, [(2, [])]⟩], blt := ["tuple", "sorted", "enumerate", "max", "min"], imp := [], cst := [("ZERO", k_ZERO)], exc := [], cls := [], sub := fun _ _ => false, flds := [], muts := [(80, 2000070), (80, 3000035), (79, 3000012)], obj := [("Mesh", ["points", "triangles"])] }
theorem sc_weights_of : FnScope N_weights_of ["mesh"] (defScope (top 29)) := C8.fnScope_by (by decide +kernel)
theorem tr_weights_of : trSs G_weights_of 60 N_weights_of (defScope (top 29)) (defBody (top 29)) = some w_weights_of := by kernel_rfl
def G_mixed_energy : Gs := { fns := [⟨"weights_of", ["mesh"], c_weights_of, [(1, [])]⟩, ⟨"plus", ["one", "other"], c_plus, [(2, [])]⟩, ⟨"times", ["one", "other"], c_times, [(2, [])]⟩, ⟨"minus", ["one", "other"], c_minus, [(2, [])]⟩], blt := [], imp := [], cst := [("ZERO", k_ZERO)], exc := [], cls := [], sub := fun _ _ => false, flds := [], muts := [] }
theorem sc_mixed_energy : FnScope N_mixed_energy ["mesh", "field", "other"] (defScope (top 31)) := C8.fnScope_by (by decide +kernel)
theorem tr_mixed_energy : trSs G_mixed_energy 60 N_mixed_energy (defScope (top 31)) (defBody (top 31)) = some w_mixed_energy := by kernel_rfl
def G_energy_by_triangles : Gs := { fns := [⟨"plus", ["one", "other"], c_plus, [(2, [])]⟩, ⟨"triangle_energy", ["mesh", "number", "field"], c_triangle_energy, [(3, [])]⟩], blt := ["range", "len"], imp := [], cst := [("ZERO", k_ZERO)], exc := [], cls := [], sub := fun _ _ => false, flds := [], muts := [], obj := [("Mesh", ["points", "triangles"])] }
theorem sc_energy_by_triangles : FnScope N_energy_by_triangles ["mesh", "field"] (defScope (top 33)) := C8.fnScope_by (by decide +kernel)
theorem tr_energy_by_triangles : trSs G_energy_by_triangles 60 N_energy_by_triangles (defScope (top 33)) (defBody (top 33)) = some w_energy_by_triangles := by kernel_rfl
def G_energy : Gs := { fns := [⟨"half", ["one"], c_half, [(1, [])]⟩, ⟨"mixed_energy", ["mesh", "field", "other"], c_mixed_energy, [(3, [])]⟩], blt := [], imp := [], cst := [], exc := [], cls := [], sub := fun _ _ => false, flds := [], muts := [] }
theorem sc_energy : FnScope N_energy ["mesh", "field"] (defScope (top 32)) := C8.fnScope_by (by decide +kernel)
theorem tr_energy : trSs G_energy 60 N_energy (defScope (top 32)) (defBody (top 32)) = some w_energy := by kernel_rfl
def G_law : Gs := { fns := [⟨"mixed_energy", ["mesh", "field", "other"], c_mixed_energy, [(3, [])]⟩, ⟨"_law_low", ["_law_top", "_law_bottom"], c__law_low, [(2, [])]⟩, ⟨"_law_plus", ["_law_one", "_law_other_here"], c__law_plus, [(2, [])]⟩, ⟨"unit_field", ["mesh", "point"], c_unit_field, [(0, ["point", "mesh"]), (2, [])]⟩, ⟨"_law_same", ["_law_told", "_law_due"], c__law_same, [(2, [])]⟩, ⟨"_law_inner", ["_law_spots", "_law_triples"], c__law_inner, [(2, [])]⟩, ⟨"energy_by_triangles", ["mesh", "field"], c_energy_by_triangles, [(2, [])]⟩, ⟨"energy", ["mesh", "field"], c_energy, [(2, [])]⟩, ⟨"_law_cross", ["_law_a", "_law_b", "_law_c"], c__law_cross, [(3, [])]⟩, ⟨"linear_field", ["mesh", "start", "right", "up"], c_linear_field, [(4, [])]⟩, ⟨"_law_any", ["_law_deal", "_law_bound"], c__law_any, [(2, [])]⟩, ⟨"_law_of", ["_law_deal", "_law_some"], c__law_of, [(2, [])]⟩, ⟨"_law_made", ["_law_spots", "_law_triples", "_law_bottom"], c__law_made, [(3, [])]⟩, ⟨"_law_mesh", ["_law_deal"], c__law_mesh, [(1, [])]⟩, ⟨"_law_source", ["_law_script"], c__law_source, [(1, [])]⟩], blt := ["range", "len", "tuple", "sum"], imp := [], cst := [], exc := [], cls := [], sub := fun _ _ => false, flds := [], muts := [], obj := [("Mesh", ["points", "triangles"])] }
theorem sc_law : FnScope N_law ["_law_script"] (defScope (top 57)) := C8.fnScope_by (by decide +kernel)
theorem tr_law : trSs G_law 60 N_law (defScope (top 57)) (defBody (top 57)) = some w_law := by kernel_rfl
theorem facts {P : Program} {w : World} {K : PySem.W.Frag} {h : Heap} {mg : Str → Option Value} {fa : Addr} (X : K.In h) (G : h.Ns mainGlobals mg) (hm : mg "law" = some (.ref fa))
    (d_fraction : DefE K "fraction" (top 7))
    (d__law_source : DefE K "_law_source" (top 36))
    (d__law_any : DefE K "_law_any" (top 37))
    (d__law_common : DefE K "_law_common" (top 39))
    (d__law_same : DefE K "_law_same" (top 41))
    (d__law_cross : DefE K "_law_cross" (top 42))
    (d__law_third : DefE K "_law_third" (top 45))
    (d__law_edges : DefE K "_law_edges" (top 52))
    (d_plus : DefE K "plus" (top 8))
    (d_minus : DefE K "minus" (top 9))
    (d_times : DefE K "times" (top 10))
    (d_over : DefE K "over" (top 11))
    (d_half : DefE K "half" (top 12))
    (d__law_of : DefE K "_law_of" (top 38))
    (d__law_low : DefE K "_law_low" (top 40))
    (d__law_split : DefE K "_law_split" (top 43))
    (d__law_grid : DefE K "_law_grid" (top 44))
    (d__law_other : DefE K "_law_other" (top 46))
    (d__law_moved : DefE K "_law_moved" (top 47))
    (d__law_fan : DefE K "_law_fan" (top 48))
    (d__law_inner : DefE K "_law_inner" (top 56))
    (d__way : DefE K "_way" (top 14))
    (d__cross : DefE K "_cross" (top 15))
    (d__along : DefE K "_along" (top 16))
    (d_corners_at : DefE K "corners_at" (top 21))
    (d_worths_at : DefE K "worths_at" (top 23))
    (d_linear_field : DefE K "linear_field" (top 25))
    (d_unit_field : DefE K "unit_field" (top 34))
    (d__law_parted : DefE K "_law_parted" (top 49))
    (d__law_flipped : DefE K "_law_flipped" (top 51))
    (d__law_made : DefE K "_law_made" (top 53))
    (d__law_plus : DefE K "_law_plus" (top 55))
    (d_doubled_area : DefE K "doubled_area" (top 17))
    (d_dot : DefE K "dot" (top 18))
    (d__law_mesh : DefE K "_law_mesh" (top 50))
    (d_slope : DefE K "slope" (top 24))
    (d_cotangent : DefE K "cotangent" (top 28))
    (d_triangle_energy : DefE K "triangle_energy" (top 26))
    (d_weights_of : DefE K "weights_of" (top 29))
    (d_mixed_energy : DefE K "mixed_energy" (top 31))
    (d_energy_by_triangles : DefE K "energy_by_triangles" (top 33))
    (d_energy : DefE K "energy" (top 32))
    (d_law : DefE K "law" (top 57))
    (b_int : PySem.W.nsIn K mainGlobals "int" = some none)
    (b_abs : PySem.W.nsIn K mainGlobals "abs" = some none)
    (b_range : PySem.W.nsIn K mainGlobals "range" = some none)
    (b_repr : PySem.W.nsIn K mainGlobals "repr" = some none)
    (b_sorted : PySem.W.nsIn K mainGlobals "sorted" = some none)
    (b_set : PySem.W.nsIn K mainGlobals "set" = some none)
    (b_max : PySem.W.nsIn K mainGlobals "max" = some none)
    (b_min : PySem.W.nsIn K mainGlobals "min" = some none)
    (b_len : PySem.W.nsIn K mainGlobals "len" = some none)
    (b_list : PySem.W.nsIn K mainGlobals "list" = some none)
    (b_tuple : PySem.W.nsIn K mainGlobals "tuple" = some none)
    (b_enumerate : PySem.W.nsIn K mainGlobals "enumerate" = some none)
    (b_sum : PySem.W.nsIn K mainGlobals "sum" = some none)
    (i_gcd : PySem.W.nsIn K mainGlobals "gcd" = some (some (.builtin "math.gcd")))
    (x_ONE : CstT K "ONE" k_ONE)
    (x_ZERO : CstT K "ZERO" k_ZERO)
    (e_InvalidSize : ∃ C fI, PX.ExTxt P K mg "InvalidSize" "word" C fI)
    (j_Mesh : ∀ base, ObjE P w K mg base ("Mesh", ["points", "triangles"])) :
    ∃ fd : FuncData, (∀ (s : Shared) (u : Value), BindsTo s fd ⟨[u], []⟩ [("_law_script", u)]) ∧ ∀ base : Heap, K.In base → base.Ns mainGlobals mg → FnG P w K mg base 9 fa fd ["_law_script"] LawC := by
  obtain ⟨f_fraction, fd_fraction, D_fraction⟩ := d_fraction
  have F_fraction : ∀ base, FnG P w K mg base 1 f_fraction fd_fraction ["top", "bottom"] c_fraction := fun base => D_fraction.fnG sc_fraction (tab (G := G_fraction) all_nil all_nil (all_cons (PySem.W.mg_of X G i_gcd) all_nil) all_nil (all_cons (by obtain ⟨C, fI, T⟩ := e_InvalidSize; exact ⟨C, fI, T, o_word⟩) all_nil) all_nil all_nil all_nil all_nil all_nil) tr_fraction does_fraction
  have P_fraction_0 : BindsK fd_fraction ["top", "bottom"] 2 [] := D_fraction.binds (fun doc pm an cd ct us ws hu hw => match us, ws, hu, hw with | [_, _], [], _, _ => ⟨by kernel_rfl, by kernel_rfl⟩)
  obtain ⟨f__law_source, fd__law_source, D__law_source⟩ := d__law_source
  have F__law_source : ∀ base, FnG P w K mg base 1 f__law_source fd__law_source ["_law_script"] c__law_source := fun base => D__law_source.fnG sc__law_source (tab (G := G__law_source) all_nil (all_cons (PySem.W.mg_none_of X G b_int) (all_cons (PySem.W.mg_none_of X G b_abs) all_nil)) all_nil all_nil all_nil all_nil all_nil all_nil all_nil all_nil) tr__law_source does__law_source
  have P__law_source_0 : BindsK fd__law_source ["_law_script"] 1 [] := D__law_source.binds (fun doc pm an cd ct us ws hu hw => match us, ws, hu, hw with | [_], [], _, _ => ⟨by kernel_rfl, by kernel_rfl⟩)
  obtain ⟨f__law_any, fd__law_any, D__law_any⟩ := d__law_any
  have F__law_any : ∀ base, FnG P w K mg base 1 f__law_any fd__law_any ["_law_deal", "_law_bound"] c__law_any := fun base => D__law_any.fnG sc__law_any (tab (G := G__law_any) all_nil (all_cons (PySem.W.mg_none_of X G b_int) all_nil) all_nil all_nil all_nil all_nil all_nil all_nil all_nil all_nil) tr__law_any does__law_any
  have P__law_any_0 : BindsK fd__law_any ["_law_deal", "_law_bound"] 2 [] := D__law_any.binds (fun doc pm an cd ct us ws hu hw => match us, ws, hu, hw with | [_, _], [], _, _ => ⟨by kernel_rfl, by kernel_rfl⟩)
  obtain ⟨f__law_common, fd__law_common, D__law_common⟩ := d__law_common
  have F__law_common : ∀ base, FnG P w K mg base 1 f__law_common fd__law_common ["_law_one", "_law_other_here"] c__law_common := fun base => D__law_common.fnG sc__law_common (tab (G := G__law_common) all_nil (all_cons (PySem.W.mg_none_of X G b_range) (all_cons (PySem.W.mg_none_of X G b_int) (all_cons (PySem.W.mg_none_of X G b_abs) all_nil))) all_nil all_nil all_nil all_nil all_nil all_nil all_nil all_nil) tr__law_common does__law_common
  have P__law_common_0 : BindsK fd__law_common ["_law_one", "_law_other_here"] 2 [] := D__law_common.binds (fun doc pm an cd ct us ws hu hw => match us, ws, hu, hw with | [_, _], [], _, _ => ⟨by kernel_rfl, by kernel_rfl⟩)
  obtain ⟨f__law_same, fd__law_same, D__law_same⟩ := d__law_same
  have F__law_same : ∀ base, FnG P w K mg base 1 f__law_same fd__law_same ["_law_told", "_law_due"] c__law_same := fun base => D__law_same.fnG sc__law_same (tab (G := G__law_same) all_nil (all_cons (PySem.W.mg_none_of X G b_repr) all_nil) all_nil all_nil all_nil all_nil all_nil all_nil all_nil all_nil) tr__law_same does__law_same
  have P__law_same_0 : BindsK fd__law_same ["_law_told", "_law_due"] 2 [] := D__law_same.binds (fun doc pm an cd ct us ws hu hw => match us, ws, hu, hw with | [_, _], [], _, _ => ⟨by kernel_rfl, by kernel_rfl⟩)
  obtain ⟨f__law_cross, fd__law_cross, D__law_cross⟩ := d__law_cross
  have F__law_cross : ∀ base, FnG P w K mg base 1 f__law_cross fd__law_cross ["_law_a", "_law_b", "_law_c"] c__law_cross := fun base => D__law_cross.fnG sc__law_cross (tab (G := G__law_cross) all_nil all_nil all_nil all_nil all_nil all_nil all_nil all_nil all_nil all_nil) tr__law_cross does__law_cross
  have P__law_cross_0 : BindsK fd__law_cross ["_law_a", "_law_b", "_law_c"] 3 [] := D__law_cross.binds (fun doc pm an cd ct us ws hu hw => match us, ws, hu, hw with | [_, _, _], [], _, _ => ⟨by kernel_rfl, by kernel_rfl⟩)
  obtain ⟨f__law_third, fd__law_third, D__law_third⟩ := d__law_third
  have F__law_third : ∀ base, FnG P w K mg base 1 f__law_third fd__law_third ["_law_triples", "_law_one", "_law_other_here"] c__law_third := fun base => D__law_third.fnG sc__law_third (tab (G := G__law_third) all_nil all_nil all_nil all_nil all_nil all_nil all_nil all_nil all_nil all_nil) tr__law_third does__law_third
  have P__law_third_0 : BindsK fd__law_third ["_law_triples", "_law_one", "_law_other_here"] 3 [] := D__law_third.binds (fun doc pm an cd ct us ws hu hw => match us, ws, hu, hw with | [_, _, _], [], _, _ => ⟨by kernel_rfl, by kernel_rfl⟩)
  obtain ⟨f__law_edges, fd__law_edges, D__law_edges⟩ := d__law_edges
  have F__law_edges : ∀ base, FnG P w K mg base 1 f__law_edges fd__law_edges ["_law_triples"] c__law_edges := fun base => D__law_edges.fnG sc__law_edges (tab (G := G__law_edges) all_nil (all_cons (PySem.W.mg_none_of X G b_sorted) (all_cons (PySem.W.mg_none_of X G b_set) (all_cons (PySem.W.mg_none_of X G b_max) (all_cons (PySem.W.mg_none_of X G b_min) all_nil)))) all_nil all_nil all_nil all_nil all_nil all_nil all_nil all_nil) tr__law_edges does__law_edges
  have P__law_edges_0 : BindsK fd__law_edges ["_law_triples"] 1 [] := D__law_edges.binds (fun doc pm an cd ct us ws hu hw => match us, ws, hu, hw with | [_], [], _, _ => ⟨by kernel_rfl, by kernel_rfl⟩)
  obtain ⟨f_plus, fd_plus, D_plus⟩ := d_plus
  have F_plus : ∀ base, FnG P w K mg base 2 f_plus fd_plus ["one", "other"] c_plus := fun base => D_plus.fnG sc_plus (tab (G := G_plus) (all_cons ((D_fraction).entry X G (by decide) (F_fraction base) (all_cons (P_fraction_0) all_nil)) all_nil) all_nil all_nil all_nil all_nil all_nil all_nil all_nil all_nil all_nil) tr_plus does_plus
  have P_plus_0 : BindsK fd_plus ["one", "other"] 2 [] := D_plus.binds (fun doc pm an cd ct us ws hu hw => match us, ws, hu, hw with | [_, _], [], _, _ => ⟨by kernel_rfl, by kernel_rfl⟩)
  obtain ⟨f_minus, fd_minus, D_minus⟩ := d_minus
  have F_minus : ∀ base, FnG P w K mg base 2 f_minus fd_minus ["one", "other"] c_minus := fun base => D_minus.fnG sc_minus (tab (G := G_minus) (all_cons ((D_fraction).entry X G (by decide) (F_fraction base) (all_cons (P_fraction_0) all_nil)) all_nil) all_nil all_nil all_nil all_nil all_nil all_nil all_nil all_nil all_nil) tr_minus does_minus
  have P_minus_0 : BindsK fd_minus ["one", "other"] 2 [] := D_minus.binds (fun doc pm an cd ct us ws hu hw => match us, ws, hu, hw with | [_, _], [], _, _ => ⟨by kernel_rfl, by kernel_rfl⟩)
  obtain ⟨f_times, fd_times, D_times⟩ := d_times
  have F_times : ∀ base, FnG P w K mg base 2 f_times fd_times ["one", "other"] c_times := fun base => D_times.fnG sc_times (tab (G := G_times) (all_cons ((D_fraction).entry X G (by decide) (F_fraction base) (all_cons (P_fraction_0) all_nil)) all_nil) all_nil all_nil all_nil all_nil all_nil all_nil all_nil all_nil all_nil) tr_times does_times
  have P_times_0 : BindsK fd_times ["one", "other"] 2 [] := D_times.binds (fun doc pm an cd ct us ws hu hw => match us, ws, hu, hw with | [_, _], [], _, _ => ⟨by kernel_rfl, by kernel_rfl⟩)
  obtain ⟨f_over, fd_over, D_over⟩ := d_over
  have F_over : ∀ base, FnG P w K mg base 2 f_over fd_over ["one", "other"] c_over := fun base => D_over.fnG sc_over (tab (G := G_over) (all_cons ((D_fraction).entry X G (by decide) (F_fraction base) (all_cons (P_fraction_0) all_nil)) all_nil) all_nil all_nil all_nil all_nil all_nil all_nil all_nil all_nil all_nil) tr_over does_over
  have P_over_0 : BindsK fd_over ["one", "other"] 2 [] := D_over.binds (fun doc pm an cd ct us ws hu hw => match us, ws, hu, hw with | [_, _], [], _, _ => ⟨by kernel_rfl, by kernel_rfl⟩)
  obtain ⟨f_half, fd_half, D_half⟩ := d_half
  have F_half : ∀ base, FnG P w K mg base 2 f_half fd_half ["one"] c_half := fun base => D_half.fnG sc_half (tab (G := G_half) (all_cons ((D_fraction).entry X G (by decide) (F_fraction base) (all_cons (P_fraction_0) all_nil)) all_nil) all_nil all_nil all_nil all_nil all_nil all_nil all_nil all_nil all_nil) tr_half does_half
  have P_half_0 : BindsK fd_half ["one"] 1 [] := D_half.binds (fun doc pm an cd ct us ws hu hw => match us, ws, hu, hw with | [_], [], _, _ => ⟨by kernel_rfl, by kernel_rfl⟩)
  obtain ⟨f__law_of, fd__law_of, D__law_of⟩ := d__law_of
  have F__law_of : ∀ base, FnG P w K mg base 2 f__law_of fd__law_of ["_law_deal", "_law_some"] c__law_of := fun base => D__law_of.fnG sc__law_of (tab (G := G__law_of) (all_cons ((D__law_any).entry X G (by decide) (F__law_any base) (all_cons (P__law_any_0) all_nil)) all_nil) (all_cons (PySem.W.mg_none_of X G b_len) all_nil) all_nil all_nil all_nil all_nil all_nil all_nil all_nil all_nil) tr__law_of does__law_of
  have P__law_of_0 : BindsK fd__law_of ["_law_deal", "_law_some"] 2 [] := D__law_of.binds (fun doc pm an cd ct us ws hu hw => match us, ws, hu, hw with | [_, _], [], _, _ => ⟨by kernel_rfl, by kernel_rfl⟩)
  obtain ⟨f__law_low, fd__law_low, D__law_low⟩ := d__law_low
  have F__law_low : ∀ base, FnG P w K mg base 2 f__law_low fd__law_low ["_law_top", "_law_bottom"] c__law_low := fun base => D__law_low.fnG sc__law_low (tab (G := G__law_low) (all_cons ((D__law_common).entry X G (by decide) (F__law_common base) (all_cons (P__law_common_0) all_nil)) all_nil) (all_cons (PySem.W.mg_none_of X G b_int) all_nil) all_nil all_nil all_nil all_nil all_nil all_nil all_nil all_nil) tr__law_low does__law_low
  have P__law_low_0 : BindsK fd__law_low ["_law_top", "_law_bottom"] 2 [] := D__law_low.binds (fun doc pm an cd ct us ws hu hw => match us, ws, hu, hw with | [_, _], [], _, _ => ⟨by kernel_rfl, by kernel_rfl⟩)
  obtain ⟨f__law_split, fd__law_split, D__law_split⟩ := d__law_split
  have F__law_split : ∀ base, FnG P w K mg base 2 f__law_split fd__law_split ["_law_deal", "_law_spots", "_law_triples"] c__law_split := fun base => D__law_split.fnG sc__law_split (tab (G := G__law_split) (all_cons ((D__law_any).entry X G (by decide) (F__law_any base) (all_cons (P__law_any_0) all_nil)) all_nil) (all_cons (PySem.W.mg_none_of X G b_len) all_nil) all_nil all_nil all_nil all_nil all_nil all_nil all_nil all_nil) tr__law_split does__law_split
  have P__law_split_0 : BindsK fd__law_split ["_law_deal", "_law_spots", "_law_triples"] 3 [] := D__law_split.binds (fun doc pm an cd ct us ws hu hw => match us, ws, hu, hw with | [_, _, _], [], _, _ => ⟨by kernel_rfl, by kernel_rfl⟩)
  obtain ⟨f__law_grid, fd__law_grid, D__law_grid⟩ := d__law_grid
  have F__law_grid : ∀ base, FnG P w K mg base 2 f__law_grid fd__law_grid ["_law_deal", "_law_wide", "_law_high", "_law_gap"] c__law_grid := fun base => D__law_grid.fnG sc__law_grid (tab (G := G__law_grid) (all_cons ((D__law_any).entry X G (by decide) (F__law_any base) (all_cons (P__law_any_0) all_nil)) all_nil) (all_cons (PySem.W.mg_none_of X G b_range) (all_cons (PySem.W.mg_none_of X G b_int) all_nil)) all_nil all_nil all_nil all_nil all_nil all_nil all_nil all_nil) tr__law_grid does__law_grid
  have P__law_grid_0 : BindsK fd__law_grid ["_law_deal", "_law_wide", "_law_high", "_law_gap"] 4 [] := D__law_grid.binds (fun doc pm an cd ct us ws hu hw => match us, ws, hu, hw with | [_, _, _, _], [], _, _ => ⟨by kernel_rfl, by kernel_rfl⟩)
  obtain ⟨f__law_other, fd__law_other, D__law_other⟩ := d__law_other
  have F__law_other : ∀ base, FnG P w K mg base 2 f__law_other fd__law_other ["_law_spots", "_law_triples", "_law_one", "_law_other_here"] c__law_other := fun base => D__law_other.fnG sc__law_other (tab (G := G__law_other) (all_cons ((D__law_cross).entry X G (by decide) (F__law_cross base) (all_cons (P__law_cross_0) all_nil)) (all_cons ((D__law_third).entry X G (by decide) (F__law_third base) (all_cons (P__law_third_0) all_nil)) all_nil)) (all_cons (PySem.W.mg_none_of X G b_sorted) all_nil) all_nil all_nil all_nil all_nil all_nil all_nil all_nil all_nil) tr__law_other does__law_other
  have P__law_other_0 : BindsK fd__law_other ["_law_spots", "_law_triples", "_law_one", "_law_other_here"] 4 [] := D__law_other.binds (fun doc pm an cd ct us ws hu hw => match us, ws, hu, hw with | [_, _, _, _], [], _, _ => ⟨by kernel_rfl, by kernel_rfl⟩)
  obtain ⟨f__law_moved, fd__law_moved, D__law_moved⟩ := d__law_moved
  have F__law_moved : ∀ base, FnG P w K mg base 2 f__law_moved fd__law_moved ["_law_deal", "_law_bottom", "_law_spots", "_law_wide", "_law_high"] c__law_moved := fun base => D__law_moved.fnG sc__law_moved (tab (G := G__law_moved) (all_cons ((D__law_any).entry X G (by decide) (F__law_any base) (all_cons (P__law_any_0) all_nil)) all_nil) (all_cons (PySem.W.mg_none_of X G b_range) (all_cons (PySem.W.mg_none_of X G b_list) all_nil)) all_nil all_nil all_nil all_nil all_nil all_nil all_nil all_nil) tr__law_moved does__law_moved
  have P__law_moved_0 : BindsK fd__law_moved ["_law_deal", "_law_bottom", "_law_spots", "_law_wide", "_law_high"] 5 [] := D__law_moved.binds (fun doc pm an cd ct us ws hu hw => match us, ws, hu, hw with | [_, _, _, _, _], [], _, _ => ⟨by kernel_rfl, by kernel_rfl⟩)
  obtain ⟨f__law_fan, fd__law_fan, D__law_fan⟩ := d__law_fan
  have F__law_fan : ∀ base, FnG P w K mg base 2 f__law_fan fd__law_fan ["_law_deal", "_law_bottom"] c__law_fan := fun base => D__law_fan.fnG sc__law_fan (tab (G := G__law_fan) (all_cons ((D__law_any).entry X G (by decide) (F__law_any base) (all_cons (P__law_any_0) all_nil)) all_nil) (all_cons (PySem.W.mg_none_of X G b_range) (all_cons (PySem.W.mg_none_of X G b_int) all_nil)) all_nil all_nil all_nil all_nil all_nil all_nil all_nil all_nil) tr__law_fan does__law_fan
  have P__law_fan_0 : BindsK fd__law_fan ["_law_deal", "_law_bottom"] 2 [] := D__law_fan.binds (fun doc pm an cd ct us ws hu hw => match us, ws, hu, hw with | [_, _], [], _, _ => ⟨by kernel_rfl, by kernel_rfl⟩)
  obtain ⟨f__law_inner, fd__law_inner, D__law_inner⟩ := d__law_inner
  have F__law_inner : ∀ base, FnG P w K mg base 2 f__law_inner fd__law_inner ["_law_spots", "_law_triples"] c__law_inner := fun base => D__law_inner.fnG sc__law_inner (tab (G := G__law_inner) (all_cons ((D__law_third).entry X G (by decide) (F__law_third base) (all_cons (P__law_third_0) all_nil)) (all_cons ((D__law_edges).entry X G (by decide) (F__law_edges base) (all_cons (P__law_edges_0) all_nil)) all_nil)) (all_cons (PySem.W.mg_none_of X G b_range) (all_cons (PySem.W.mg_none_of X G b_len) all_nil)) all_nil all_nil all_nil all_nil all_nil all_nil all_nil all_nil) tr__law_inner does__law_inner
  have P__law_inner_0 : BindsK fd__law_inner ["_law_spots", "_law_triples"] 2 [] := D__law_inner.binds (fun doc pm an cd ct us ws hu hw => match us, ws, hu, hw with | [_, _], [], _, _ => ⟨by kernel_rfl, by kernel_rfl⟩)
  obtain ⟨f__way, fd__way, D__way⟩ := d__way
  have F__way : ∀ base, FnG P w K mg base 3 f__way fd__way ["a", "b"] c__way := fun base => D__way.fnG sc__way (tab (G := G__way) (all_cons ((D_minus).entry X G (by decide) (F_minus base) (all_cons (P_minus_0) all_nil)) all_nil) all_nil all_nil all_nil all_nil all_nil all_nil all_nil all_nil all_nil) tr__way does__way
  have P__way_0 : BindsK fd__way ["a", "b"] 2 [] := D__way.binds (fun doc pm an cd ct us ws hu hw => match us, ws, hu, hw with | [_, _], [], _, _ => ⟨by kernel_rfl, by kernel_rfl⟩)
  obtain ⟨f__cross, fd__cross, D__cross⟩ := d__cross
  have F__cross : ∀ base, FnG P w K mg base 3 f__cross fd__cross ["one", "other"] c__cross := fun base => D__cross.fnG sc__cross (tab (G := G__cross) (all_cons ((D_minus).entry X G (by decide) (F_minus base) (all_cons (P_minus_0) all_nil)) (all_cons ((D_times).entry X G (by decide) (F_times base) (all_cons (P_times_0) all_nil)) all_nil)) all_nil all_nil all_nil all_nil all_nil all_nil all_nil all_nil all_nil) tr__cross does__cross
  have P__cross_0 : BindsK fd__cross ["one", "other"] 2 [] := D__cross.binds (fun doc pm an cd ct us ws hu hw => match us, ws, hu, hw with | [_, _], [], _, _ => ⟨by kernel_rfl, by kernel_rfl⟩)
  obtain ⟨f__along, fd__along, D__along⟩ := d__along
  have F__along : ∀ base, FnG P w K mg base 3 f__along fd__along ["one", "other"] c__along := fun base => D__along.fnG sc__along (tab (G := G__along) (all_cons ((D_plus).entry X G (by decide) (F_plus base) (all_cons (P_plus_0) all_nil)) (all_cons ((D_times).entry X G (by decide) (F_times base) (all_cons (P_times_0) all_nil)) all_nil)) all_nil all_nil all_nil all_nil all_nil all_nil all_nil all_nil all_nil) tr__along does__along
  have P__along_0 : BindsK fd__along ["one", "other"] 2 [] := D__along.binds (fun doc pm an cd ct us ws hu hw => match us, ws, hu, hw with | [_, _], [], _, _ => ⟨by kernel_rfl, by kernel_rfl⟩)
  obtain ⟨f_corners_at, fd_corners_at, D_corners_at⟩ := d_corners_at
  have F_corners_at : ∀ base, FnG P w K mg base 3 f_corners_at fd_corners_at ["mesh", "number"] c_corners_at := fun base => D_corners_at.fnG sc_corners_at (tab (G := G_corners_at) all_nil all_nil all_nil all_nil all_nil all_nil all_nil all_nil (all_cons ⟨by decide, by decide, j_Mesh base⟩ all_nil) all_nil) tr_corners_at does_corners_at
  have P_corners_at_0 : BindsK fd_corners_at ["mesh", "number"] 2 [] := D_corners_at.binds (fun doc pm an cd ct us ws hu hw => match us, ws, hu, hw with | [_, _], [], _, _ => ⟨by kernel_rfl, by kernel_rfl⟩)
  obtain ⟨f_worths_at, fd_worths_at, D_worths_at⟩ := d_worths_at
  have F_worths_at : ∀ base, FnG P w K mg base 3 f_worths_at fd_worths_at ["mesh", "number", "field"] c_worths_at := fun base => D_worths_at.fnG sc_worths_at (tab (G := G_worths_at) all_nil (all_cons (PySem.W.mg_none_of X G b_tuple) all_nil) all_nil all_nil all_nil all_nil all_nil all_nil (all_cons ⟨by decide, by decide, j_Mesh base⟩ all_nil) all_nil) tr_worths_at does_worths_at
  have P_worths_at_0 : BindsK fd_worths_at ["mesh", "number", "field"] 3 [] := D_worths_at.binds (fun doc pm an cd ct us ws hu hw => match us, ws, hu, hw with | [_, _, _], [], _, _ => ⟨by kernel_rfl, by kernel_rfl⟩)
  obtain ⟨f_linear_field, fd_linear_field, D_linear_field⟩ := d_linear_field
  have F_linear_field : ∀ base, FnG P w K mg base 3 f_linear_field fd_linear_field ["mesh", "start", "right", "up"] c_linear_field := fun base => D_linear_field.fnG sc_linear_field (tab (G := G_linear_field) (all_cons ((D_plus).entry X G (by decide) (F_plus base) (all_cons (P_plus_0) all_nil)) (all_cons ((D_times).entry X G (by decide) (F_times base) (all_cons (P_times_0) all_nil)) all_nil)) (all_cons (PySem.W.mg_none_of X G b_tuple) all_nil) all_nil all_nil all_nil all_nil all_nil all_nil (all_cons ⟨by decide, by decide, j_Mesh base⟩ all_nil) all_nil) tr_linear_field does_linear_field
  have P_linear_field_0 : BindsK fd_linear_field ["mesh", "start", "right", "up"] 4 [] := D_linear_field.binds (fun doc pm an cd ct us ws hu hw => match us, ws, hu, hw with | [_, _, _, _], [], _, _ => ⟨by kernel_rfl, by kernel_rfl⟩)
  obtain ⟨f_unit_field, fd_unit_field, D_unit_field⟩ := d_unit_field
  have F_unit_field : ∀ base, FnG P w K mg base 3 f_unit_field fd_unit_field ["mesh", "point"] c_unit_field := fun base => D_unit_field.fnG sc_unit_field (tab (G := G_unit_field) all_nil (all_cons (PySem.W.mg_none_of X G b_tuple) (all_cons (PySem.W.mg_none_of X G b_range) (all_cons (PySem.W.mg_none_of X G b_len) all_nil))) all_nil (all_cons (x_ONE.get X G) (all_cons (x_ZERO.get X G) all_nil)) all_nil all_nil all_nil all_nil (all_cons ⟨by decide, by decide, j_Mesh base⟩ all_nil) all_nil) tr_unit_field does_unit_field
  have P_unit_field_0 : BindsK fd_unit_field ["mesh", "point"] 0 ["point", "mesh"] := D_unit_field.binds (fun doc pm an cd ct us ws hu hw => match us, ws, hu, hw with | [], [_, _], _, _ => ⟨by kernel_rfl, by kernel_rfl⟩)
  have P_unit_field_1 : BindsK fd_unit_field ["mesh", "point"] 2 [] := D_unit_field.binds (fun doc pm an cd ct us ws hu hw => match us, ws, hu, hw with | [_, _], [], _, _ => ⟨by kernel_rfl, by kernel_rfl⟩)
  obtain ⟨f__law_parted, fd__law_parted, D__law_parted⟩ := d__law_parted
  have F__law_parted : ∀ base, FnG P w K mg base 3 f__law_parted fd__law_parted ["_law_deal", "_law_bottom"] c__law_parted := fun base => D__law_parted.fnG sc__law_parted (tab (G := G__law_parted) (all_cons ((D__law_split).entry X G (by decide) (F__law_split base) (all_cons (P__law_split_0) all_nil)) (all_cons ((D__law_any).entry X G (by decide) (F__law_any base) (all_cons (P__law_any_0) all_nil)) all_nil)) (all_cons (PySem.W.mg_none_of X G b_range) all_nil) all_nil all_nil all_nil all_nil all_nil all_nil all_nil all_nil) tr__law_parted does__law_parted
  have P__law_parted_0 : BindsK fd__law_parted ["_law_deal", "_law_bottom"] 2 [] := D__law_parted.binds (fun doc pm an cd ct us ws hu hw => match us, ws, hu, hw with | [_, _], [], _, _ => ⟨by kernel_rfl, by kernel_rfl⟩)
  obtain ⟨f__law_flipped, fd__law_flipped, D__law_flipped⟩ := d__law_flipped
  have F__law_flipped : ∀ base, FnG P w K mg base 3 f__law_flipped fd__law_flipped ["_law_spots", "_law_triples", "_law_triple"] c__law_flipped := fun base => D__law_flipped.fnG sc__law_flipped (tab (G := G__law_flipped) (all_cons ((D__law_other).entry X G (by decide) (F__law_other base) (all_cons (P__law_other_0) all_nil)) all_nil) all_nil all_nil all_nil all_nil all_nil all_nil all_nil all_nil all_nil) tr__law_flipped does__law_flipped
  have P__law_flipped_0 : BindsK fd__law_flipped ["_law_spots", "_law_triples", "_law_triple"] 3 [] := D__law_flipped.binds (fun doc pm an cd ct us ws hu hw => match us, ws, hu, hw with | [_, _, _], [], _, _ => ⟨by kernel_rfl, by kernel_rfl⟩)
  obtain ⟨f__law_made, fd__law_made, D__law_made⟩ := d__law_made
  have F__law_made : ∀ base, FnG P w K mg base 3 f__law_made fd__law_made ["_law_spots", "_law_triples", "_law_bottom"] c__law_made := fun base => D__law_made.fnG sc__law_made (tab (G := G__law_made) (all_cons ((D__law_low).entry X G (by decide) (F__law_low base) (all_cons (P__law_low_0) all_nil)) all_nil) (all_cons (PySem.W.mg_none_of X G b_tuple) (all_cons (PySem.W.mg_none_of X G b_sorted) (all_cons (PySem.W.mg_none_of X G b_min) all_nil))) all_nil all_nil all_nil all_nil all_nil all_nil all_nil all_nil) tr__law_made does__law_made
  have P__law_made_0 : BindsK fd__law_made ["_law_spots", "_law_triples", "_law_bottom"] 3 [] := D__law_made.binds (fun doc pm an cd ct us ws hu hw => match us, ws, hu, hw with | [_, _, _], [], _, _ => ⟨by kernel_rfl, by kernel_rfl⟩)
  obtain ⟨f__law_plus, fd__law_plus, D__law_plus⟩ := d__law_plus
  have F__law_plus : ∀ base, FnG P w K mg base 3 f__law_plus fd__law_plus ["_law_one", "_law_other_here"] c__law_plus := fun base => D__law_plus.fnG sc__law_plus (tab (G := G__law_plus) (all_cons ((D__law_low).entry X G (by decide) (F__law_low base) (all_cons (P__law_low_0) all_nil)) all_nil) all_nil all_nil all_nil all_nil all_nil all_nil all_nil all_nil all_nil) tr__law_plus does__law_plus
  have P__law_plus_0 : BindsK fd__law_plus ["_law_one", "_law_other_here"] 2 [] := D__law_plus.binds (fun doc pm an cd ct us ws hu hw => match us, ws, hu, hw with | [_, _], [], _, _ => ⟨by kernel_rfl, by kernel_rfl⟩)
  obtain ⟨f_doubled_area, fd_doubled_area, D_doubled_area⟩ := d_doubled_area
  have F_doubled_area : ∀ base, FnG P w K mg base 4 f_doubled_area fd_doubled_area ["a", "b", "c"] c_doubled_area := fun base => D_doubled_area.fnG sc_doubled_area (tab (G := G_doubled_area) (all_cons ((D__cross).entry X G (by decide) (F__cross base) (all_cons (P__cross_0) all_nil)) (all_cons ((D__way).entry X G (by decide) (F__way base) (all_cons (P__way_0) all_nil)) all_nil)) all_nil all_nil all_nil all_nil all_nil all_nil all_nil all_nil all_nil) tr_doubled_area does_doubled_area
  have P_doubled_area_0 : BindsK fd_doubled_area ["a", "b", "c"] 3 [] := D_doubled_area.binds (fun doc pm an cd ct us ws hu hw => match us, ws, hu, hw with | [_, _, _], [], _, _ => ⟨by kernel_rfl, by kernel_rfl⟩)
  obtain ⟨f_dot, fd_dot, D_dot⟩ := d_dot
  have F_dot : ∀ base, FnG P w K mg base 4 f_dot fd_dot ["a", "b", "c"] c_dot := fun base => D_dot.fnG sc_dot (tab (G := G_dot) (all_cons ((D__along).entry X G (by decide) (F__along base) (all_cons (P__along_0) all_nil)) (all_cons ((D__way).entry X G (by decide) (F__way base) (all_cons (P__way_0) all_nil)) all_nil)) all_nil all_nil all_nil all_nil all_nil all_nil all_nil all_nil all_nil) tr_dot does_dot
  have P_dot_0 : BindsK fd_dot ["a", "b", "c"] 3 [] := D_dot.binds (fun doc pm an cd ct us ws hu hw => match us, ws, hu, hw with | [_, _, _], [], _, _ => ⟨by kernel_rfl, by kernel_rfl⟩)
  obtain ⟨f__law_mesh, fd__law_mesh, D__law_mesh⟩ := d__law_mesh
  have F__law_mesh : ∀ base, FnG P w K mg base 4 f__law_mesh fd__law_mesh ["_law_deal"] c__law_mesh := fun base => D__law_mesh.fnG sc__law_mesh (tab (G := G__law_mesh) (all_cons ((D__law_any).entry X G (by decide) (F__law_any base) (all_cons (P__law_any_0) all_nil)) (all_cons ((D__law_flipped).entry X G (by decide) (F__law_flipped base) (all_cons (P__law_flipped_0) all_nil)) (all_cons ((D__law_of).entry X G (by decide) (F__law_of base) (all_cons (P__law_of_0) all_nil)) (all_cons ((D__law_fan).entry X G (by decide) (F__law_fan base) (all_cons (P__law_fan_0) all_nil)) (all_cons ((D__law_grid).entry X G (by decide) (F__law_grid base) (all_cons (P__law_grid_0) all_nil)) (all_cons ((D__law_moved).entry X G (by decide) (F__law_moved base) (all_cons (P__law_moved_0) all_nil)) (all_cons ((D__law_parted).entry X G (by decide) (F__law_parted base) (all_cons (P__law_parted_0) all_nil)) all_nil))))))) (all_cons (PySem.W.mg_none_of X G b_range) all_nil) all_nil all_nil all_nil all_nil all_nil all_nil all_nil all_nil) tr__law_mesh does__law_mesh
  have P__law_mesh_0 : BindsK fd__law_mesh ["_law_deal"] 1 [] := D__law_mesh.binds (fun doc pm an cd ct us ws hu hw => match us, ws, hu, hw with | [_], [], _, _ => ⟨by kernel_rfl, by kernel_rfl⟩)
  obtain ⟨f_slope, fd_slope, D_slope⟩ := d_slope
  have F_slope : ∀ base, FnG P w K mg base 5 f_slope fd_slope ["mesh", "number", "field"] c_slope := fun base => D_slope.fnG sc_slope (tab (G := G_slope) (all_cons ((D_over).entry X G (by decide) (F_over base) (all_cons (P_over_0) all_nil)) (all_cons ((D_doubled_area).entry X G (by decide) (F_doubled_area base) (all_cons (P_doubled_area_0) all_nil)) (all_cons ((D_minus).entry X G (by decide) (F_minus base) (all_cons (P_minus_0) all_nil)) (all_cons ((D_times).entry X G (by decide) (F_times base) (all_cons (P_times_0) all_nil)) (all_cons ((D_worths_at).entry X G (by decide) (F_worths_at base) (all_cons (P_worths_at_0) all_nil)) (all_cons ((D_corners_at).entry X G (by decide) (F_corners_at base) (all_cons (P_corners_at_0) all_nil)) all_nil)))))) all_nil all_nil all_nil all_nil all_nil all_nil all_nil all_nil all_nil) tr_slope does_slope
  have P_slope_0 : BindsK fd_slope ["mesh", "number", "field"] 3 [] := D_slope.binds (fun doc pm an cd ct us ws hu hw => match us, ws, hu, hw with | [_, _, _], [], _, _ => ⟨by kernel_rfl, by kernel_rfl⟩)
  obtain ⟨f_cotangent, fd_cotangent, D_cotangent⟩ := d_cotangent
  have F_cotangent : ∀ base, FnG P w K mg base 5 f_cotangent fd_cotangent ["a", "b", "c"] c_cotangent := fun base => D_cotangent.fnG sc_cotangent (tab (G := G_cotangent) (all_cons ((D_over).entry X G (by decide) (F_over base) (all_cons (P_over_0) all_nil)) (all_cons ((D_doubled_area).entry X G (by decide) (F_doubled_area base) (all_cons (P_doubled_area_0) all_nil)) (all_cons ((D_dot).entry X G (by decide) (F_dot base) (all_cons (P_dot_0) all_nil)) all_nil))) all_nil all_nil all_nil all_nil all_nil all_nil all_nil all_nil all_nil) tr_cotangent does_cotangent
  have P_cotangent_0 : BindsK fd_cotangent ["a", "b", "c"] 3 [] := D_cotangent.binds (fun doc pm an cd ct us ws hu hw => match us, ws, hu, hw with | [_, _, _], [], _, _ => ⟨by kernel_rfl, by kernel_rfl⟩)
  obtain ⟨f_triangle_energy, fd_triangle_energy, D_triangle_energy⟩ := d_triangle_energy
  have F_triangle_energy : ∀ base, FnG P w K mg base 6 f_triangle_energy fd_triangle_energy ["mesh", "number", "field"] c_triangle_energy := fun base => D_triangle_energy.fnG sc_triangle_energy (tab (G := G_triangle_energy) (all_cons ((D_times).entry X G (by decide) (F_times base) (all_cons (P_times_0) all_nil)) (all_cons ((D_plus).entry X G (by decide) (F_plus base) (all_cons (P_plus_0) all_nil)) (all_cons ((D_doubled_area).entry X G (by decide) (F_doubled_area base) (all_cons (P_doubled_area_0) all_nil)) (all_cons ((D_slope).entry X G (by decide) (F_slope base) (all_cons (P_slope_0) all_nil)) (all_cons ((D_corners_at).entry X G (by decide) (F_corners_at base) (all_cons (P_corners_at_0) all_nil)) all_nil))))) all_nil all_nil all_nil all_nil all_nil all_nil all_nil all_nil all_nil) tr_triangle_energy does_triangle_energy
  have P_triangle_energy_0 : BindsK fd_triangle_energy ["mesh", "number", "field"] 3 [] := D_triangle_energy.binds (fun doc pm an cd ct us ws hu hw => match us, ws, hu, hw with | [_, _, _], [], _, _ => ⟨by kernel_rfl, by kernel_rfl⟩)
  obtain ⟨f_weights_of, fd_weights_of, D_weights_of⟩ := d_weights_of
  have F_weights_of : ∀ base, FnG P w K mg base 6 f_weights_of fd_weights_of ["mesh"] c_weights_of := fun base => D_weights_of.fnG sc_weights_of (tab (G := G_weights_of) (all_cons ((D_half).entry X G (by decide) (F_half base) (all_cons (P_half_0) all_nil)) (all_cons ((D_cotangent).entry X G (by decide) (F_cotangent base) (all_cons (P_cotangent_0) all_nil)) (all_cons ((D_plus).entry X G (by decide) (F_plus base) (all_cons (P_plus_0) all_nil)) (all_cons ((D_corners_at).entry X G (by decide) (F_corners_at base) (all_cons (P_corners_at_0) all_nil)) all_nil)))) (all_cons (PySem.W.mg_none_of X G b_tuple) (all_cons (PySem.W.mg_none_of X G b_sorted) (all_cons (PySem.W.mg_none_of X G b_enumerate) (all_cons (PySem.W.mg_none_of X G b_max) (all_cons (PySem.W.mg_none_of X G b_min) all_nil))))) all_nil (all_cons (x_ZERO.get X G) all_nil) all_nil all_nil all_nil all_nil (all_cons ⟨by decide, by decide, j_Mesh base⟩ all_nil) all_nil) tr_weights_of does_weights_of
  have P_weights_of_0 : BindsK fd_weights_of ["mesh"] 1 [] := D_weights_of.binds (fun doc pm an cd ct us ws hu hw => match us, ws, hu, hw with | [_], [], _, _ => ⟨by kernel_rfl, by kernel_rfl⟩)
  obtain ⟨f_mixed_energy, fd_mixed_energy, D_mixed_energy⟩ := d_mixed_energy
  have F_mixed_energy : ∀ base, FnG P w K mg base 7 f_mixed_energy fd_mixed_energy ["mesh", "field", "other"] c_mixed_energy := fun base => D_mixed_energy.fnG sc_mixed_energy (tab (G := G_mixed_energy) (all_cons ((D_weights_of).entry X G (by decide) (F_weights_of base) (all_cons (P_weights_of_0) all_nil)) (all_cons ((D_plus).entry X G (by decide) (F_plus base) (all_cons (P_plus_0) all_nil)) (all_cons ((D_times).entry X G (by decide) (F_times base) (all_cons (P_times_0) all_nil)) (all_cons ((D_minus).entry X G (by decide) (F_minus base) (all_cons (P_minus_0) all_nil)) all_nil)))) all_nil all_nil (all_cons (x_ZERO.get X G) all_nil) all_nil all_nil all_nil all_nil all_nil all_nil) tr_mixed_energy does_mixed_energy
  have P_mixed_energy_0 : BindsK fd_mixed_energy ["mesh", "field", "other"] 3 [] := D_mixed_energy.binds (fun doc pm an cd ct us ws hu hw => match us, ws, hu, hw with | [_, _, _], [], _, _ => ⟨by kernel_rfl, by kernel_rfl⟩)
  obtain ⟨f_energy_by_triangles, fd_energy_by_triangles, D_energy_by_triangles⟩ := d_energy_by_triangles
  have F_energy_by_triangles : ∀ base, FnG P w K mg base 7 f_energy_by_triangles fd_energy_by_triangles ["mesh", "field"] c_energy_by_triangles := fun base => D_energy_by_triangles.fnG sc_energy_by_triangles (tab (G := G_energy_by_triangles) (all_cons ((D_plus).entry X G (by decide) (F_plus base) (all_cons (P_plus_0) all_nil)) (all_cons ((D_triangle_energy).entry X G (by decide) (F_triangle_energy base) (all_cons (P_triangle_energy_0) all_nil)) all_nil)) (all_cons (PySem.W.mg_none_of X G b_range) (all_cons (PySem.W.mg_none_of X G b_len) all_nil)) all_nil (all_cons (x_ZERO.get X G) all_nil) all_nil all_nil all_nil all_nil (all_cons ⟨by decide, by decide, j_Mesh base⟩ all_nil) all_nil) tr_energy_by_triangles does_energy_by_triangles
  have P_energy_by_triangles_0 : BindsK fd_energy_by_triangles ["mesh", "field"] 2 [] := D_energy_by_triangles.binds (fun doc pm an cd ct us ws hu hw => match us, ws, hu, hw with | [_, _], [], _, _ => ⟨by kernel_rfl, by kernel_rfl⟩)
  obtain ⟨f_energy, fd_energy, D_energy⟩ := d_energy
  have F_energy : ∀ base, FnG P w K mg base 8 f_energy fd_energy ["mesh", "field"] c_energy := fun base => D_energy.fnG sc_energy (tab (G := G_energy) (all_cons ((D_half).entry X G (by decide) (F_half base) (all_cons (P_half_0) all_nil)) (all_cons ((D_mixed_energy).entry X G (by decide) (F_mixed_energy base) (all_cons (P_mixed_energy_0) all_nil)) all_nil)) all_nil all_nil all_nil all_nil all_nil all_nil all_nil all_nil all_nil) tr_energy does_energy
  have P_energy_0 : BindsK fd_energy ["mesh", "field"] 2 [] := D_energy.binds (fun doc pm an cd ct us ws hu hw => match us, ws, hu, hw with | [_, _], [], _, _ => ⟨by kernel_rfl, by kernel_rfl⟩)
  obtain ⟨f_law, fd_law, D_law⟩ := d_law
  have F_law : ∀ base, FnG P w K mg base 9 f_law fd_law ["_law_script"] c_law := fun base => D_law.fnG sc_law (tab (G := G_law) (all_cons ((D_mixed_energy).entry X G (by decide) (F_mixed_energy base) (all_cons (P_mixed_energy_0) all_nil)) (all_cons ((D__law_low).entry X G (by decide) (F__law_low base) (all_cons (P__law_low_0) all_nil)) (all_cons ((D__law_plus).entry X G (by decide) (F__law_plus base) (all_cons (P__law_plus_0) all_nil)) (all_cons ((D_unit_field).entry X G (by decide) (F_unit_field base) (all_cons (P_unit_field_0) (all_cons (P_unit_field_1) all_nil))) (all_cons ((D__law_same).entry X G (by decide) (F__law_same base) (all_cons (P__law_same_0) all_nil)) (all_cons ((D__law_inner).entry X G (by decide) (F__law_inner base) (all_cons (P__law_inner_0) all_nil)) (all_cons ((D_energy_by_triangles).entry X G (by decide) (F_energy_by_triangles base) (all_cons (P_energy_by_triangles_0) all_nil)) (all_cons ((D_energy).entry X G (by decide) (F_energy base) (all_cons (P_energy_0) all_nil)) (all_cons ((D__law_cross).entry X G (by decide) (F__law_cross base) (all_cons (P__law_cross_0) all_nil)) (all_cons ((D_linear_field).entry X G (by decide) (F_linear_field base) (all_cons (P_linear_field_0) all_nil)) (all_cons ((D__law_any).entry X G (by decide) (F__law_any base) (all_cons (P__law_any_0) all_nil)) (all_cons ((D__law_of).entry X G (by decide) (F__law_of base) (all_cons (P__law_of_0) all_nil)) (all_cons ((D__law_made).entry X G (by decide) (F__law_made base) (all_cons (P__law_made_0) all_nil)) (all_cons ((D__law_mesh).entry X G (by decide) (F__law_mesh base) (all_cons (P__law_mesh_0) all_nil)) (all_cons ((D__law_source).entry X G (by decide) (F__law_source base) (all_cons (P__law_source_0) all_nil)) all_nil))))))))))))))) (all_cons (PySem.W.mg_none_of X G b_range) (all_cons (PySem.W.mg_none_of X G b_len) (all_cons (PySem.W.mg_none_of X G b_tuple) (all_cons (PySem.W.mg_none_of X G b_sum) all_nil)))) all_nil all_nil all_nil all_nil all_nil all_nil (all_cons ⟨by decide, by decide, j_Mesh base⟩ all_nil) all_nil) tr_law does_law
  have e := hm.symm.trans (D_law.gl X G)
  cases e
  have B : BindsK fd_law ["_law_script"] 1 [] := D_law.binds (fun doc pm an cd ct us ws hu hw => match us, ws, hu, hw with | [_], [], _, _ => ⟨by kernel_rfl, by kernel_rfl⟩)
  exact ⟨fd_law, fun s u => .of_eq (B [u] [] rfl rfl).1, fun base _ _ => F_law base⟩
end K
open PySem PySem.W PySem.Calls PyProof.Rows
theorem PySem.Challenge.cw_leastfield_k43_whole_linear_fields_holds : PySem.Challenge.rw_leastfield_k43_whole_linear_fields.Holds := by
  w_on; o_law; k_head; (case hw => w_witness2)
  k_fill
  refine PL.walk_G (l := PySem.Challenge.rw_leastfield_k43_whole_linear_fields) (k := 9) (x := "_law_script") rfl (by kernel_rfl) ⟨⟨rfl, by decide, by decide⟩, rfl⟩ (fun w h Y => PySem.W.kIn_of Y) ?F
  intro w mg fa h KX G hmg
  refine K.facts KX G hmg ?d_fraction ?d__law_source ?d__law_any ?d__law_common ?d__law_same ?d__law_cross ?d__law_third ?d__law_edges ?d_plus ?d_minus ?d_times ?d_over ?d_half ?d__law_of ?d__law_low ?d__law_split ?d__law_grid ?d__law_other ?d__law_moved ?d__law_fan ?d__law_inner ?d__way ?d__cross ?d__along ?d_corners_at ?d_worths_at ?d_linear_field ?d_unit_field ?d__law_parted ?d__law_flipped ?d__law_made ?d__law_plus ?d_doubled_area ?d_dot ?d__law_mesh ?d_slope ?d_cotangent ?d_triangle_energy ?d_weights_of ?d_mixed_energy ?d_energy_by_triangles ?d_energy ?d_law ?b_int ?b_abs ?b_range ?b_repr ?b_sorted ?b_set ?b_max ?b_min ?b_len ?b_list ?b_tuple ?b_enumerate ?b_sum ?i_gcd ?x_ONE ?x_ZERO ?e_InvalidSize ?j_Mesh
  (case d_fraction => exact PL.defE (by k_is) (by k_is) (by k_is) (by k_is))
  (case d__law_source => exact PL.defE (by k_is) (by k_is) (by k_is) (by k_is))
  (case d__law_any => exact PL.defE (by k_is) (by k_is) (by k_is) (by k_is))
  (case d__law_common => exact PL.defE (by k_is) (by k_is) (by k_is) (by k_is))
  (case d__law_same => exact PL.defE (by k_is) (by k_is) (by k_is) (by k_is))
  (case d__law_cross => exact PL.defE (by k_is) (by k_is) (by k_is) (by k_is))
  (case d__law_third => exact PL.defE (by k_is) (by k_is) (by k_is) (by k_is))
  (case d__law_edges => exact PL.defE (by k_is) (by k_is) (by k_is) (by k_is))
  (case d_plus => exact PL.defE (by k_is) (by k_is) (by k_is) (by k_is))
  (case d_minus => exact PL.defE (by k_is) (by k_is) (by k_is) (by k_is))
  (case d_times => exact PL.defE (by k_is) (by k_is) (by k_is) (by k_is))
  (case d_over => exact PL.defE (by k_is) (by k_is) (by k_is) (by k_is))
  (case d_half => exact PL.defE (by k_is) (by k_is) (by k_is) (by k_is))
  (case d__law_of => exact PL.defE (by k_is) (by k_is) (by k_is) (by k_is))
  (case d__law_low => exact PL.defE (by k_is) (by k_is) (by k_is) (by k_is))
  (case d__law_split => exact PL.defE (by k_is) (by k_is) (by k_is) (by k_is))
  (case d__law_grid => exact PL.defE (by k_is) (by k_is) (by k_is) (by k_is))
  (case d__law_other => exact PL.defE (by k_is) (by k_is) (by k_is) (by k_is))
  (case d__law_moved => exact PL.defE (by k_is) (by k_is) (by k_is) (by k_is))
  (case d__law_fan => exact PL.defE (by k_is) (by k_is) (by k_is) (by k_is))
  (case d__law_inner => exact PL.defE (by k_is) (by k_is) (by k_is) (by k_is))
  (case d__way => exact PL.defE (by k_is) (by k_is) (by k_is) (by k_is))
  (case d__cross => exact PL.defE (by k_is) (by k_is) (by k_is) (by k_is))
  (case d__along => exact PL.defE (by k_is) (by k_is) (by k_is) (by k_is))
  (case d_corners_at => exact PL.defE (by k_is) (by k_is) (by k_is) (by k_is))
  (case d_worths_at => exact PL.defE (by k_is) (by k_is) (by k_is) (by k_is))
  (case d_linear_field => exact PL.defE (by k_is) (by k_is) (by k_is) (by k_is))
  (case d_unit_field => exact PL.defE (by k_is) (by k_is) (by k_is) (by k_is))
  (case d__law_parted => exact PL.defE (by k_is) (by k_is) (by k_is) (by k_is))
  (case d__law_flipped => exact PL.defE (by k_is) (by k_is) (by k_is) (by k_is))
  (case d__law_made => exact PL.defE (by k_is) (by k_is) (by k_is) (by k_is))
  (case d__law_plus => exact PL.defE (by k_is) (by k_is) (by k_is) (by k_is))
  (case d_doubled_area => exact PL.defE (by k_is) (by k_is) (by k_is) (by k_is))
  (case d_dot => exact PL.defE (by k_is) (by k_is) (by k_is) (by k_is))
  (case d__law_mesh => exact PL.defE (by k_is) (by k_is) (by k_is) (by k_is))
  (case d_slope => exact PL.defE (by k_is) (by k_is) (by k_is) (by k_is))
  (case d_cotangent => exact PL.defE (by k_is) (by k_is) (by k_is) (by k_is))
  (case d_triangle_energy => exact PL.defE (by k_is) (by k_is) (by k_is) (by k_is))
  (case d_weights_of => exact PL.defE (by k_is) (by k_is) (by k_is) (by k_is))
  (case d_mixed_energy => exact PL.defE (by k_is) (by k_is) (by k_is) (by k_is))
  (case d_energy_by_triangles => exact PL.defE (by k_is) (by k_is) (by k_is) (by k_is))
  (case d_energy => exact PL.defE (by k_is) (by k_is) (by k_is) (by k_is))
  (case d_law => exact PL.defE (by k_is) (by k_is) (by k_is) (by k_is))
  (case b_int => k_is)
  (case b_abs => k_is)
  (case b_range => k_is)
  (case b_repr => k_is)
  (case b_sorted => k_is)
  (case b_set => k_is)
  (case b_max => k_is)
  (case b_min => k_is)
  (case b_len => k_is)
  (case b_list => k_is)
  (case b_tuple => k_is)
  (case b_enumerate => k_is)
  (case b_sum => k_is)
  (case i_gcd => k_is)
  (case x_ONE => first | exact PL.cst_i (by k_is) | exact PL.cst_s (by k_is) | exact PL.cst_ii (by k_is) (by k_is))
  (case x_ZERO => first | exact PL.cst_i (by k_is) | exact PL.cst_s (by k_is) | exact PL.cst_ii (by k_is) (by k_is))
  (case e_InvalidSize => exact ⟨_, _, PySem.W.mg_of KX G (by k_is), PySem.W.mg_none_of KX G (by k_is), ⟨_, _, _, _, _, _, _, _, _, _, _, _, _, _, _, by k_is, by kernel_rfl, by kernel_rfl⟩, by k_is, by k_is, by k_is, by k_is, by k_is, by k_is, by k_is, by k_is, by k_is, by k_is, by k_is, by k_is, by k_is, by k_is, ⟨_, _, _, _, _, _, _, _, _, _, _, _, _, _, _, _, _, _, _, _, _, _, by k_is, by rfl, by k_is, ⟨_, _, _, _, _, _, by k_is, by rfl, by kernel_rfl⟩, _, _, _, by k_is⟩, by kernel_rfl⟩)
  (case j_Mesh => intro base; exact PL.objE2 (cn := "Mesh") (x := "points") (y := "triangles") (qual := "Mesh.__init__") (st := K.meth 20 0) (p1 := ⟨45, 8, 45, 12⟩) (p2 := ⟨45, 8, 45, 19⟩) (p3 := ⟨45, 22, 45, 28⟩) (p4 := ⟨45, 8, 45, 28⟩) (q1 := ⟨46, 8, 46, 12⟩) (q2 := ⟨46, 8, 46, 22⟩) (q3 := ⟨46, 25, 46, 34⟩) (q4 := ⟨46, 8, 46, 34⟩) (by k_is) KX G (by k_is) (by k_is) (by k_is) (by k_is) (by k_is) (by k_is) (by k_is) (by k_is) (by k_is) (by k_is) (by k_is) (by k_is) (by k_is) (C8.fnScope_by (by decide +kernel)) (by kernel_rfl) (by decide) (by decide) (by decide) (by decide) (by decide) (fun _ _ _ _ _ _ _ _ _ => by kernel_rfl))
