import PyProof.Rows.All
import HandS.ForMost
import HandS.Exc
import HandS.TryOnly
import HandS.ExcOwn
import HandS.WordsExc
import HandS.ExcSuper
import HandS.ExcField
import HandS.ExcIs
import HandS.CallSlots
import HandS.Wide
import HandS.Gcd
import HandS.Style
import HandS.RaiseMore
import HandS.TupAny
import KE.KExcInit
import KE.KSuper
import KE.KExcIs
import HandS.Flt
import HandS.IsInst
import HandS.Deep
import HandS.Zip
import KE.DatumOrd
import HandS.Rev
import HandS.EndBits
import HandS.Codes
import PySem.Challenge.RW_leastfield_k10_whole_areas_of_rings
set_option Elab.async false
set_option linter.all false
set_option maxRecDepth 100000
set_option maxHeartbeats 8000000
namespace PL
open PySem PySem.Spec L2
inductive D where
  | non | bl (b : Bool) | int (i : Int) | str (x : Str) | tup (ds : List D) | lst (ds : List D) | ref (a : Addr)
/-- a list that stays as it is: locked, or one of the module's -/
def FzL (K : PySem.W.Frag) (H : Hp) (a : Addr) (xs : List V) : Prop :=
  (∃ o, H a = some (.frz o (.lst xs))) ∨
    ∃ (o : Obj) (its : Array Value) (n : Nat), K.lookup a = some o ∧ o.cls = .type "list" ∧ o.dict = none ∧ o.data = .seq its n ∧ its.size ≤ sizeLine ∧ Vals xs its.toList
theorem FzL.sql {K : PySem.W.Frag} {H : Hp} {a : Addr} {xs : List V} : FzL K H a xs → SqL K H a xs
  | .inl h => .inl (.inr h)
  | .inr h => .inr h
mutual
inductive Rep (K : PySem.W.Frag) (H : Hp) : V → D → Prop
  | non : Rep K H .non .non
  | bl (b : Bool) : Rep K H (.bl b) (.bl b)
  | int (i : Int) : Rep K H (.int i) (.int i)
  | str (x : Str) : Rep K H (.str x) (.str x)
  | ref (a : Addr) : Rep K H (.ref a) (.ref a)
  | tup {a : Addr} {xs : List V} {ds : List D} : SqT K H a xs → RepL K H xs ds → Rep K H (.ref a) (.tup ds)
  | lst {a : Addr} {xs : List V} {ds : List D} : FzL K H a xs → RepL K H xs ds → Rep K H (.ref a) (.lst ds)
inductive RepL (K : PySem.W.Frag) (H : Hp) : List V → List D → Prop
  | nil : RepL K H [] []
  | cons {v : V} {vs : List V} {d : D} {ds : List D} : Rep K H v d → RepL K H vs ds → RepL K H (v :: vs) (d :: ds)
end
structure Ext (H H' : Hp) : Prop where
  tup : ∀ b xs, H b = some (.tup xs) → H' b = some (.tup xs)
  frz : ∀ b o u, H b = some (.frz o u) → H' b = some (.frz o u)
  xd : ∀ b fs, H b = some (.xd fs) → H' b = some (.xd fs)
theorem Ext.refl (H : Hp) : Ext H H := ⟨fun _ _ e => e, fun _ _ _ e => e, fun _ _ e => e⟩
theorem Ext.trans {H H1 H2 : Hp} (a : Ext H H1) (b : Ext H1 H2) : Ext H H2 := ⟨fun c xs e => b.tup c xs (a.tup c xs e), fun c o u e => b.frz c o u (a.frz c o u e), fun c fs e => b.xd c fs (a.xd c fs e)⟩
theorem Ext.new {H : Hp} {p : Addr} {o : HO} (h : H p = none) : Ext H (upd H p o) :=
  ⟨fun b xs e => by rw [upd_ne (ne_of_none e h)]; exact e, fun b o' u e => by rw [upd_ne (ne_of_none e h)]; exact e, fun b fs e => by rw [upd_ne (ne_of_none e h)]; exact e⟩
theorem Ext.put {H : Hp} {p : Addr} {xs : List V} {o : HO} (h : H p = some (.lst xs)) : Ext H (upd H p o) :=
  ⟨fun b ys e => by rw [upd_ne (ne_of e h (fun z => by cases z))]; exact e, fun b o' u e => by rw [upd_ne (ne_of e h (fun z => by cases z))]; exact e, fun b fs e => by rw [upd_ne (ne_of e h (fun z => by cases z))]; exact e⟩
theorem Ext.sqt {K : PySem.W.Frag} {H H' : Hp} {a : Addr} {xs : List V} (e : Ext H H') : SqT K H a xs → SqT K H' a xs
  | .inl (.inl h) => .inl (.inl (e.tup _ _ h))
  | .inl (.inr ⟨o, h⟩) => .inl (.inr ⟨o, e.frz _ _ _ h⟩)
  | .inr h => .inr h
theorem Ext.fzl {K : PySem.W.Frag} {H H' : Hp} {a : Addr} {xs : List V} (e : Ext H H') : FzL K H a xs → FzL K H' a xs
  | .inl ⟨o, h⟩ => .inl ⟨o, e.frz _ _ _ h⟩
  | .inr h => .inr h
mutual
theorem Rep.ext {K : PySem.W.Frag} {H H' : Hp} (e : Ext H H') : ∀ {v : V} {d : D}, Rep K H v d → Rep K H' v d
  | _, _, .non => .non
  | _, _, .bl b => .bl b
  | _, _, .int i => .int i
  | _, _, .str x => .str x
  | _, _, .ref a => .ref a
  | _, _, .tup h r => .tup (e.sqt h) (RepL.ext e r)
  | _, _, .lst h r => .lst (e.fzl h) (RepL.ext e r)
theorem RepL.ext {K : PySem.W.Frag} {H H' : Hp} (e : Ext H H') : ∀ {vs : List V} {ds : List D}, RepL K H vs ds → RepL K H' vs ds
  | _, _, .nil => .nil
  | _, _, .cons r t => .cons (Rep.ext e r) (RepL.ext e t)
end
end PL
namespace PL
open PySem PySem.Spec L2
/-! ### lists of data -/
section
variable {K : PySem.W.Frag} {H H' : Hp}
theorem RepL.length : ∀ {vs : List V} {ds : List D}, RepL K H vs ds → vs.length = ds.length
  | _, _, .nil => rfl
  | _, _, .cons _ t => by simp only [List.length_cons, RepL.length t]
theorem RepL.get : ∀ {vs : List V} {ds : List D} {i : Nat} {d : D}, RepL K H vs ds → ds[i]? = some d → ∃ v, vs[i]? = some v ∧ Rep K H v d
  | _, _, _, _, .nil, e => by simp at e
  | _, _, 0, _, .cons r _, e => by simp at e; subst e; exact ⟨_, rfl, r⟩
  | _, _, i + 1, _, .cons _ t, e => by
    obtain ⟨v, h1, h2⟩ := RepL.get (i := i) t (by simpa using e)
    exact ⟨v, by simpa using h1, h2⟩
theorem RepL.getV : ∀ {vs : List V} {ds : List D} {i : Nat} {v : V}, RepL K H vs ds → vs[i]? = some v → ∃ d, ds[i]? = some d ∧ Rep K H v d
  | _, _, _, _, .nil, e => by simp at e
  | _, _, 0, _, .cons r _, e => by simp at e; subst e; exact ⟨_, rfl, r⟩
  | _, _, i + 1, _, .cons _ t, e => by
    obtain ⟨v, h1, h2⟩ := RepL.getV (i := i) t (by simpa using e)
    exact ⟨v, by simpa using h1, h2⟩
theorem RepL.append : ∀ {vs us : List V} {ds es : List D}, RepL K H vs ds → RepL K H us es → RepL K H (vs ++ us) (ds ++ es)
  | _, _, _, _, .nil, s => s
  | _, _, _, _, .cons r t, s => .cons r (RepL.append t s)
theorem RepL.set : ∀ {vs : List V} {ds : List D} {v : V} {d : D} (i : Nat), RepL K H vs ds → Rep K H v d → RepL K H (vs.set i v) (ds.set i d)
  | _, _, _, _, _, .nil, _ => .nil
  | _, _, _, _, 0, .cons _ t, q => .cons q t
  | _, _, _, _, i + 1, .cons r t, q => .cons r (RepL.set i t q)
theorem RepL.take : ∀ {vs : List V} {ds : List D} (n : Nat), RepL K H vs ds → RepL K H (vs.take n) (ds.take n)
  | _, _, 0, _ => .nil
  | _, _, _ + 1, .nil => .nil
  | _, _, n + 1, .cons r t => .cons r (RepL.take n t)
theorem RepL.drop : ∀ {vs : List V} {ds : List D} (n : Nat), RepL K H vs ds → RepL K H (vs.drop n) (ds.drop n)
  | _, _, 0, r => r
  | _, _, _ + 1, .nil => .nil
  | _, _, n + 1, .cons _ t => RepL.drop n t
theorem RepL.rev {vs : List V} {ds : List D} : RepL K H vs ds → RepL K H vs.reverse ds.reverse := by
  intro h
  induction vs generalizing ds with
  | nil => cases h; exact .nil
  | cons v vs ih =>
    cases h with
    | cons r t =>
      rw [List.reverse_cons, List.reverse_cons]
      exact (ih t).append (.cons r .nil)
theorem RepL.dropLast {vs : List V} {ds : List D} (h : RepL K H vs ds) : RepL K H vs.dropLast ds.dropLast := by
  rw [List.dropLast_eq_take, List.dropLast_eq_take, h.length]
  exact h.take _
theorem RepL.ints : ∀ {vs : List V} {ns : List Int}, RepL K H vs (ns.map D.int) → vs = ns.map V.int
  | _, [], .nil => rfl
  | _, _ :: _, .cons (.int _) t => by rw [RepL.ints t]; rfl
theorem RepL.of_ints : ∀ (ns : List Int), RepL K H (ns.map V.int) (ns.map D.int)
  | [] => .nil
  | n :: ns => .cons (.int n) (RepL.of_ints ns)
end
/-! ### the store: what may change -/
inductive DO where
  | lst (ds : List D)
abbrev Sto := Addr → Option DO
def sput (S : Sto) (a : Addr) (o : DO) : Sto := fun b => if b = a then some o else S b
theorem sput_same {S : Sto} {a : Addr} {o : DO} : sput S a o a = some o := by unfold sput; rw [if_pos rfl]
theorem sput_ne {S : Sto} {a b : Addr} {o : DO} (h : b ≠ a) : sput S a o b = S b := by unfold sput; rw [if_neg h]
theorem sput_sput {S : Sto} {a : Addr} {o u : DO} : sput (sput S a o) a u = sput S a u := by
  funext b; unfold sput; split <;> rfl
def RepO (K : PySem.W.Frag) (H : Hp) (a : Addr) : DO → Prop
  | .lst ds => ∃ vs, H a = some (.lst vs) ∧ RepL K H vs ds
def RepS (K : PySem.W.Frag) (H : Hp) (S : Sto) : Prop := ∀ a o, S a = some o → RepO K H a o
abbrev Env := List (Option D)
structure RepE (K : PySem.W.Frag) (H : Hp) (σ : St) (env : Env) : Prop where
  len : σ.length = env.length
  get : ∀ (i : Nat) (d : D), env[i]? = some (some d) → ∃ v : V, σ[i]? = some (some v) ∧ Rep K H v d
section
variable {K : PySem.W.Frag} {H H' : Hp} {S : Sto} {σ : St} {env : Env}
theorem RepE.ext (r : RepE K H σ env) (e : Ext H H') : RepE K H' σ env := ⟨r.len, fun i d q => let ⟨v, a, b⟩ := r.get i d q; ⟨v, a, b.ext e⟩⟩
theorem RepE.set {i : Nat} {v : V} {d : D} (r : RepE K H σ env) (q : Rep K H v d) : RepE K H (σ.set i (some v)) (env.set i (some d)) := by
  refine ⟨by rw [List.length_set, List.length_set, r.len], fun j e h => ?_⟩
  by_cases hj : j = i
  · subst hj
    have hl : j < env.length := by
      have := (List.getElem?_eq_some_iff.mp h).1
      rwa [List.length_set] at this
    rw [List.getElem?_set_self hl] at h
    cases h
    exact ⟨v, List.getElem?_set_self (r.len ▸ hl), q⟩
  · rw [List.getElem?_set_ne (Ne.symm hj)] at h
    rw [List.getElem?_set_ne (Ne.symm hj)]
    exact r.get j e h
theorem RepE.forget {i : Nat} {v : Option V} (r : RepE K H σ env) : RepE K H (σ.set i v) (env.set i none) := by
  refine ⟨by rw [List.length_set, List.length_set, r.len], fun j e h => ?_⟩
  by_cases hj : j = i
  · subst hj
    have hl : j < env.length := by
      have := (List.getElem?_eq_some_iff.mp h).1
      rwa [List.length_set] at this
    rw [List.getElem?_set_self hl] at h
    cases h
  · rw [List.getElem?_set_ne (Ne.symm hj)] at h
    rw [List.getElem?_set_ne (Ne.symm hj)]
    exact r.get j e h
theorem RepS.free (r : RepS K H S) {p : Addr} (h : H p = none) : S p = none := by
  cases e : S p with
  | none => rfl
  | some o =>
    cases o with
    | lst ds =>
      obtain ⟨vs, q, _⟩ := r p _ e
      rw [h] at q; cases q
theorem RepO.new {a p : Addr} {o : DO} {u : HO} (h : H p = none) (r : RepO K H a o) : RepO K (upd H p u) a o := by
  cases o with
  | lst ds =>
    obtain ⟨vs, q, t⟩ := r
    exact ⟨vs, by rw [upd_ne (ne_of_none q h)]; exact q, t.ext (Ext.new h)⟩
theorem RepS.new {p : Addr} {u : HO} (h : H p = none) (r : RepS K H S) : RepS K (upd H p u) S := fun a o e => RepO.new h (r a o e)
theorem RepS.newL {p : Addr} {vs : List V} {ds : List D} (h : H p = none) (r : RepS K H S) (q : RepL K H vs ds) : RepS K (upd H p (.lst vs)) (sput S p (.lst ds)) := fun a o e => by
  by_cases ha : a = p
  · subst ha
    rw [sput_same] at e
    cases e
    exact ⟨vs, upd_same, q.ext (Ext.new h)⟩
  · rw [sput_ne ha] at e
    exact RepO.new h (r a o e)
theorem RepS.putL {p : Addr} {us vs : List V} {ds : List D} (h : H p = some (.lst us)) (r : RepS K H S) (q : RepL K H vs ds) : RepS K (upd H p (.lst vs)) (sput S p (.lst ds)) := fun a o e => by
  by_cases ha : a = p
  · subst ha
    rw [sput_same] at e
    cases e
    exact ⟨vs, upd_same, q.ext (Ext.put h)⟩
  · rw [sput_ne ha] at e
    have t := r a o e
    cases o with
    | lst ds =>
      obtain ⟨ws, q, t⟩ := t
      exact ⟨ws, by rw [upd_ne ha]; exact q, t.ext (Ext.put h)⟩
end
/-! ### exceptions -/
structure XD where
  cls : Str
  fs : List (Str × D)
def clsV (mg : Str → Option Value) (x : Str) : Option Value := match mg x with
  | some v => some v
  | none => bootBuiltins x
def RepX (K : PySem.W.Frag) (mg : Str → Option Value) (H : Hp) (cls : Value) (d : Option Addr) (x : XD) : Prop :=
  clsV mg x.cls = some cls ∧ match x.fs with
    | [] => d = none
    | p :: r => ∃ dd fv, d = some dd ∧ H dd = some (.xd fv) ∧ fv.map (·.1) = (p :: r).map (·.1) ∧ RepL K H (fv.map (·.2)) ((p :: r).map (·.2))
/-! ### readings by data -/
abbrev PD := D → Sto → Prop
abbrev PX := XD → Sto → Prop
abbrev WE := Env → Sto → PD → PX → Prop
abbrev WB := Env → Sto → (Bool → Sto → Prop) → PX → Prop
abbrev WA := Env → Sto → (List D → Sto → Prop) → PX → Prop
section
variable (K : PySem.W.Frag) (mg : Str → Option Value) (W : WX)
def okX (H0 : Hp) (σ : St) (X : PX) : Prop := ∀ x S' cls dd H', X x S' → Ext H0 H' → RepX K mg H' cls dd x → RepS K H' S' → W cls dd σ H'
def okE (H0 : Hp) (P : PD) (Q : VK) : Prop := ∀ d S' v H', P d S' → Ext H0 H' → Rep K H' v d → RepS K H' S' → Q v H'
def okB (H0 : Hp) (P : Bool → Sto → Prop) (Q : Bool → Hp → Prop) : Prop := ∀ b S' H', P b S' → Ext H0 H' → RepS K H' S' → Q b H'
def okA (n : Nat) (H0 : Hp) (P : List D → Sto → Prop) (Q : List V → Hp → Prop) : Prop := ∀ ds S' vs H', P ds S' → ds.length = n → Ext H0 H' → RepL K H' vs ds → RepS K H' S' → Q vs H'
def tE (w : WE) : TE := fun σ H Q => ∃ env S P X, RepE K H σ env ∧ RepS K H S ∧ w env S P X ∧ okE K H P Q ∧ okX K mg W H σ X
def tT (w : WB) : TT := fun σ H Q => ∃ env S P X, RepE K H σ env ∧ RepS K H S ∧ w env S P X ∧ okB K H P Q ∧ okX K mg W H σ X
def tA (n : Nat) (w : WA) : TA := fun σ H Q => ∃ env S P X, RepE K H σ env ∧ RepS K H S ∧ w env S P X ∧ okA K n H P Q ∧ okX K mg W H σ X
end
section
variable {K : PySem.W.Frag} {mg : Str → Option Value} {W : WX} {H H1 : Hp} {σ : St} {X : PX} {P : PD} {Q : VK}
theorem okX.ext (h : okX K mg W H σ X) (e : Ext H H1) : okX K mg W H1 σ X := fun x S' c d H' a b r s => h x S' c d H' a (e.trans b) r s
theorem okE.ext (h : okE K H P Q) (e : Ext H H1) : okE K H1 P Q := fun d S' v H' a b r s => h d S' v H' a (e.trans b) r s
theorem okB.ext {P : Bool → Sto → Prop} {Q : Bool → Hp → Prop} (h : okB K H P Q) (e : Ext H H1) : okB K H1 P Q := fun d S' H' a b s => h d S' H' a (e.trans b) s
theorem okA.ext {n : Nat} {P : List D → Sto → Prop} {Q : List V → Hp → Prop} (h : okA K n H P Q) (e : Ext H H1) : okA K n H1 P Q := fun d S' v H' a l b r s => h d S' v H' a l (e.trans b) r s
theorem okE.here {d : D} {S : Sto} {v : V} (h : okE K H P Q) (p : P d S) (r : Rep K H v d) (s : RepS K H S) : Q v H := h d S v H p (Ext.refl H) r s
end
abbrev IE (X : Cx) (W : WX) (e : Expr) (w : WE) : Prop := PE X e (tE X.K X.mg W w)
abbrev IT (X : Cx) (W : WX) (e : Expr) (w : WB) : Prop := PT X e (tT X.K X.mg W w)
abbrev IA (X : Cx) (W : WX) (es : List Expr) (w : WA) : Prop := PA X es (tA X.K X.mg W es.length w)
/-- weaker readings -/
theorem _root_.L2.PE.of {X : Cx} {e : Expr} {t u : TE} (h : PE X e t) (i : ∀ σ H Q, u σ H Q → t σ H Q) : PE X e u := ⟨fun pins s σ H Q I q => h.run pins s σ H Q I (i σ H Q q)⟩
theorem _root_.L2.PT.of {X : Cx} {e : Expr} {t u : TT} (h : PT X e t) (i : ∀ σ H Q, u σ H Q → t σ H Q) : PT X e u := ⟨fun pins s σ H Q I q => h.run pins s σ H Q I (i σ H Q q)⟩
theorem _root_.L2.PA.of {X : Cx} {e : List Expr} {t u : TA} (h : PA X e t) (i : ∀ σ H Q, u σ H Q → t σ H Q) : PA X e u := ⟨fun pos pins s σ H Q I q => h.run pos pins s σ H Q I (i σ H Q q)⟩
/-! ### by values -/
/-- what a step on values is, by data -/
abbrev O1 := D → Sto → PD → Prop
abbrev O2 := D → D → Sto → PD → Prop
abbrev ON := List D → Sto → PD → Prop
def StepsE (X : Cx) (pins : List (Addr × Obj)) (σ : St) (H : Hp) (P : PD) (m : Sem Value) (s : Shared) : Prop :=
  ∀ Q : VK, okE X.K H P Q → wpAny (model X.prog X.w) X.A m (EP X pins σ Q) X.xe s
def D2 (X : Cx) (f : Value → Value → Sem Value) (o : O2) : Prop :=
  ∀ (pins : List (Addr × Obj)) (s : Shared) (σ : St) (H : Hp) (S : Sto) (x y : D) (xv yv : V) (v u : Value) (P : PD), Inv X pins σ H s → RelV xv v → RelV yv u → Rep X.K H xv x → Rep X.K H yv y → RepS X.K H S → o x y S P → StepsE X pins σ H P (f v u) s
def D1 (X : Cx) (f : Value → Sem Value) (o : O1) : Prop :=
  ∀ (pins : List (Addr × Obj)) (s : Shared) (σ : St) (H : Hp) (S : Sto) (x : D) (xv : V) (v : Value) (P : PD), Inv X pins σ H s → RelV xv v → Rep X.K H xv x → RepS X.K H S → o x S P → StepsE X pins σ H P (f v) s
def DN (X : Cx) (f : List Value → Sem Value) (o : ON) : Prop :=
  ∀ (pins : List (Addr × Obj)) (s : Shared) (σ : St) (H : Hp) (S : Sto) (xs : List D) (xvs : List V) (us : List Value) (P : PD), Inv X pins σ H s → Vals xvs us → RepL X.K H xvs xs → RepS X.K H S → o xs S P → StepsE X pins σ H P (f us) s
section
variable {X : Cx} {W : WX} {a b c e : Expr} {es : List Expr} {pos : Pos} {wa wb wc : WE} {was : WA}
theorem D2.op {op : Operator} {o : O2} (h : D2 X (binaryOp op) o) : OpR X (binaryOp op) (fun x y H Q => ∃ dx dy S P, Rep X.K H x dx ∧ Rep X.K H y dy ∧ RepS X.K H S ∧ o dx dy S P ∧ okE X.K H P Q) :=
  fun pins s σ H x y v u Q I rx ry ⟨dx, dy, S, P, r1, r2, rs, ho, hq⟩ => h pins s σ H S dx dy x y v u P I rx ry r1 r2 rs ho Q hq
theorem D2.cmp {op : CmpOp} {o : O2} (h : D2 X (compareOp op) o) : OpR X (compareOp op) (fun x y H Q => ∃ dx dy S P, Rep X.K H x dx ∧ Rep X.K H y dy ∧ RepS X.K H S ∧ o dx dy S P ∧ okE X.K H P Q) :=
  fun pins s σ H x y v u Q I rx ry ⟨dx, dy, S, P, r1, r2, rs, ho, hq⟩ => h pins s σ H S dx dy x y v u P I rx ry r1 r2 rs ho Q hq
def wVar (i : Nat) : WE := fun env S P _ => match env[i]? with
  | some (some d) => P d S
  | _ => False
def wC (d : D) : WE := fun _ S P _ => P d S
def w2 (o : O2) (wa wb : WE) : WE := fun env S P X => wa env S (fun x S1 => wb env S1 (fun y S2 => o x y S2 P) X) X
def w1 (o : O1) (wa : WE) : WE := fun env S P X => wa env S (fun x S1 => o x S1 P) X
theorem ie_var {i : Nat} {x : Str} (hN : X.N[i]? = some x) (hv : Vis X.env.scope x) (hd : (x == ("__debug__" : Str)) = false) (hcd : (x == ("__classdict__" : Str)) = false) : IE X W (.Name x pos) (wVar i) :=
  (pe_var hN hv hd hcd).of fun σ H Q ⟨env, S, P, PX, re, rs, h, hq, _⟩ => by
    unfold wVar at h
    split at h
    · rename_i d e
      obtain ⟨v, h1, h2⟩ := re.get i d e
      exact ⟨v, h1, hq.here h h2 rs⟩
    · exact h.elim
theorem ie_int {i : Int} {j : Nat} : IE X W (.Constant (.int i) j pos) (wC (.int i)) := pe_int.of fun σ H Q ⟨env, S, P, PX, re, rs, h, hq, _⟩ => hq.here h (.int i) rs
theorem ie_bl {i : Bool} {j : Nat} : IE X W (.Constant (.bool i) j pos) (wC (.bl i)) := pe_bl.of fun σ H Q ⟨env, S, P, PX, re, rs, h, hq, _⟩ => hq.here h (.bl i) rs
theorem ie_non {j : Nat} : IE X W (.Constant .none j pos) (wC .non) := pe_non.of fun σ H Q ⟨env, S, P, PX, re, rs, h, hq, _⟩ => hq.here h .non rs
theorem ie_str {x : Str} {j : Nat} : IE X W (.Constant (.str x) j pos) (wC (.str x)) := pe_str.of fun σ H Q ⟨env, S, P, PX, re, rs, h, hq, _⟩ => hq.here h (.str x) rs
/-- the two parts of a binary step -/
theorem two {r : R2} {o : O2} (hr : ∀ x y H Q, (∃ dx dy S P, Rep X.K H x dx ∧ Rep X.K H y dy ∧ RepS X.K H S ∧ o dx dy S P ∧ okE X.K H P Q) → r x y H Q) (σ : St) (H : Hp) (Q : VK) (h : tE X.K X.mg W (w2 o wa wb) σ H Q) :
    tOp r (tE X.K X.mg W wa) (tE X.K X.mg W wb) σ H Q := by
  obtain ⟨env, S, P, PX, re, rs, h, hq, hx⟩ := h
  exact ⟨env, S, _, PX, re, rs, h, fun d1 S1 v1 H1 p1 e1 r1 s1 => ⟨env, S1, _, PX, re.ext e1, s1, p1, fun d2 S2 v2 H2 p2 e2 r2 s2 => hr _ _ _ _ ⟨d1, d2, S2, P, r1.ext e2, r2, s2, p2, hq.ext (e1.trans e2)⟩, hx.ext e1⟩, hx⟩
theorem ie_op {op : Operator} {o : O2} (ho : D2 X (binaryOp op) o) (ha : IE X W a wa) (hb : IE X W b wb) : IE X W (.BinOp a op b pos) (w2 o wa wb) :=
  (pe_op ho.op ha hb).of fun σ H Q h => two (fun _ _ _ _ z => z) σ H Q h
theorem ie_cmp {op : CmpOp} {o : O2} (ho : D2 X (compareOp op) o) (ha : IE X W a wa) (hb : IE X W b wb) (hm : behindInMarks op b = false) : IE X W (.Compare a [op] [b] pos) (w2 o wa wb) :=
  (pe_cmpR ho.cmp ha hb hm).of fun σ H Q h => two (fun _ _ _ _ z => z) σ H Q h
theorem ie_un {op : UnaryOp} {o : O1} (ho : D1 X (unaryOp op) o) (ha : IE X W a wa) : IE X W (.UnaryOp op a pos) (w1 o wa) :=
  (pe_un (r := fun x H Q => ∃ dx S P, Rep X.K H x dx ∧ RepS X.K H S ∧ o dx S P ∧ okE X.K H P Q) (fun pins s σ H x v Q I rx ⟨dx, S, P, r1, rs, ho', hq⟩ => ho pins s σ H S dx x v P I rx r1 rs ho' Q hq) ha).of fun σ H Q ⟨env, S, P, PX, re, rs, h, hq, hx⟩ =>
    ⟨env, S, _, PX, re, rs, h, fun d1 S1 v1 H1 p1 e1 r1 s1 => ⟨d1, S1, P, r1, s1, p1, hq.ext e1⟩, hx⟩
/-! tests -/
/-- a bool's answer -/
def wBl (w : WE) : WB := fun env S P X => w env S (fun d S' => match d with
  | .bl k => P k S'
  | _ => False) X
theorem bl_of {d : D} {P : Bool → Sto → Prop} {S : Sto} (h : match d with
  | .bl k => P k S
  | _ => False) : ∃ k, d = .bl k ∧ P k S := by
  cases d with
  | bl k => exact ⟨k, rfl, h⟩
  | _ => exact h.elim
theorem it_of {t : TE} (h : PE X e t) (ht : PT X e (fun σ H Q => t σ H fun x H' => ∃ k, x = .bl k ∧ Q k H')) (hE : t = tE X.K X.mg W wa) : IT X W e (wBl wa) := by
  subst hE
  refine ht.of fun σ H Q ⟨env, S, P, PX, re, rs, h, hq, hx⟩ => ?_
  refine ⟨env, S, _, PX, re, rs, h, fun d S' v H' p e1 r s => ?_, hx⟩
  obtain ⟨k, rfl, q⟩ := bl_of p
  cases r
  exact ⟨k, rfl, hq k S' H' q e1 s⟩
theorem it_cmp {op : CmpOp} {o : O2} (ho : D2 X (compareOp op) o) (ha : IE X W a wa) (hb : IE X W b wb) (hm : behindInMarks op b = false) : IT X W (.Compare a [op] [b] pos) (wBl (w2 o wa wb)) := by
  refine (pt_cmpR ho.cmp ha hb hm).of fun σ H Q ⟨env, S, P, PX, re, rs, h, hq, hx⟩ => ?_
  refine two (o := o) (wa := wa) (wb := wb) (fun _ _ _ _ z => z) σ H _ ⟨env, S, _, PX, re, rs, h, fun d S' v H' p e1 r s => ?_, hx⟩
  obtain ⟨k, rfl, q⟩ := bl_of p
  cases r
  exact ⟨k, rfl, hq k S' H' q e1 s⟩
def wAndB (u v : WB) : WB := fun env S P X => u env S (fun k S1 => if k = true then v env S1 P X else P false S1) X
def wOrB (u v : WB) : WB := fun env S P X => u env S (fun k S1 => if k = true then P true S1 else v env S1 P X) X
def wNotB (u : WB) : WB := fun env S P X => u env S (fun k S1 => P (!k) S1) X
variable {ua ub : WB} {rest : List Expr}
abbrev IW (X : Cx) (W : WX) (e : Expr) (w : WB) : Prop := PW X e (tT X.K X.mg W w)
theorem _root_.L2.PW.of {X : Cx} {e : Expr} {t u : TT} (h : PW X e t) (i : ∀ σ H Q, u σ H Q → t σ H Q) : PW X e u := ⟨fun wh pins s σ H Q I q => h.run wh pins s σ H Q I (i σ H Q q)⟩
theorem iw_and1 (ha : IT X W a ua) : IW X W (.BoolOp .And [a] pos) ua := pw_and1 ha
theorem iw_or1 (ha : IT X W a ua) : IW X W (.BoolOp .Or [a] pos) ua := pw_or1 ha
theorem iw_and (ha : IT X W a ua) (hb : IW X W (.BoolOp .And (b :: rest) pos) ub) : IW X W (.BoolOp .And (a :: b :: rest) pos) (wAndB ua ub) :=
  (pw_and ha hb).of fun σ H Q ⟨env, S, P, PX, re, rs, h, hq, hx⟩ => ⟨env, S, _, PX, re, rs, h, fun k S1 H1 p e1 s1 => match k, p with
    | true, p => ⟨env, S1, P, PX, re.ext e1, s1, p, hq.ext e1, hx.ext e1⟩
    | false, p => hq _ S1 H1 p e1 s1, hx⟩
theorem iw_or (ha : IT X W a ua) (hb : IW X W (.BoolOp .Or (b :: rest) pos) ub) : IW X W (.BoolOp .Or (a :: b :: rest) pos) (wOrB ua ub) :=
  (pw_or ha hb).of fun σ H Q ⟨env, S, P, PX, re, rs, h, hq, hx⟩ => ⟨env, S, _, PX, re, rs, h, fun k S1 H1 p e1 s1 => match k, p with
    | true, p => hq _ S1 H1 p e1 s1
    | false, p => ⟨env, S1, P, PX, re.ext e1, s1, p, hq.ext e1, hx.ext e1⟩, hx⟩
theorem it_not (ha : IT X W a ua) : IT X W (.UnaryOp .Not a pos) (wNotB ua) :=
  (pt_not ha).of fun σ H Q ⟨env, S, P, PX, re, rs, h, hq, hx⟩ => ⟨env, S, _, PX, re, rs, h, fun k S1 H1 p e1 s1 => hq _ S1 H1 p e1 s1, hx⟩
/-! .. as values -/
def wAndV (wa wb : WE) : WE := fun env S P X => wa env S (fun d S1 => match d with
  | .bl k => if k = true then wb env S1 P X else P (.bl false) S1
  | _ => False) X
def wOrV (wa wb : WE) : WE := fun env S P X => wa env S (fun d S1 => match d with
  | .bl k => if k = true then P (.bl true) S1 else wb env S1 P X
  | _ => False) X
def wNotV (wa : WE) : WE := fun env S P X => wa env S (fun d S1 => match d with
  | .bl k => P (.bl (!k)) S1
  | _ => False) X
theorem ie_one {op : BoolOp} (h : IE X W a wa) : IE X W (.BoolOp op [a] pos) wa := pe_one h
theorem ie_and (ha : IE X W a wa) (hb : IE X W (.BoolOp .And (b :: rest) pos) wb) : IE X W (.BoolOp .And (a :: b :: rest) pos) (wAndV wa wb) :=
  (pe_and ha hb).of fun σ H Q ⟨env, S, P, PX, re, rs, h, hq, hx⟩ => ⟨env, S, _, PX, re, rs, h, fun d S1 v1 H1 p e1 r1 s1 => by
    cases d with
    | bl k =>
      cases r1
      exact ⟨k, rfl, match k, p with
        | true, p => ⟨env, S1, P, PX, re.ext e1, s1, p, hq.ext e1, hx.ext e1⟩
        | false, p => hq _ S1 _ H1 p e1 (.bl _) s1⟩
    | _ => exact p.elim, hx⟩
theorem ie_or (ha : IE X W a wa) (hb : IE X W (.BoolOp .Or (b :: rest) pos) wb) : IE X W (.BoolOp .Or (a :: b :: rest) pos) (wOrV wa wb) :=
  (pe_or ha hb).of fun σ H Q ⟨env, S, P, PX, re, rs, h, hq, hx⟩ => ⟨env, S, _, PX, re, rs, h, fun d S1 v1 H1 p e1 r1 s1 => by
    cases d with
    | bl k =>
      cases r1
      exact ⟨k, rfl, match k, p with
        | true, p => hq _ S1 _ H1 p e1 (.bl _) s1
        | false, p => ⟨env, S1, P, PX, re.ext e1, s1, p, hq.ext e1, hx.ext e1⟩⟩
    | _ => exact p.elim, hx⟩
theorem ie_not (ha : IE X W a wa) : IE X W (.UnaryOp .Not a pos) (wNotV wa) :=
  (pe_not ha).of fun σ H Q ⟨env, S, P, PX, re, rs, h, hq, hx⟩ => ⟨env, S, _, PX, re, rs, h, fun d S1 v1 H1 p e1 r1 s1 => by
    cases d with
    | bl k => cases r1; exact ⟨k, rfl, hq _ S1 _ H1 p e1 (.bl _) s1⟩
    | _ => exact p.elim, hx⟩
def wIf (u : WB) (wa wb : WE) : WE := fun env S P X => u env S (fun k S1 => if k = true then wa env S1 P X else wb env S1 P X) X
theorem ie_if (hc : IT X W c ua) (ha : IE X W a wa) (hb : IE X W b wb) : IE X W (.IfExp c a b pos) (wIf ua wa wb) :=
  (pe_ifExp hc ha hb).of fun σ H Q ⟨env, S, P, PX, re, rs, h, hq, hx⟩ => ⟨env, S, _, PX, re, rs, h, fun k S1 H1 p e1 s1 => match k, p with
    | true, p => ⟨env, S1, P, PX, re.ext e1, s1, p, hq.ext e1, hx.ext e1⟩
    | false, p => ⟨env, S1, P, PX, re.ext e1, s1, p, hq.ext e1, hx.ext e1⟩, hx⟩
/-! arguments and displays -/
def wNil : WA := fun _ S P _ => P [] S
def wCons (w : WE) (r : WA) : WA := fun env S P X => w env S (fun d S1 => r env S1 (fun ds S2 => P (d :: ds) S2) X) X
theorem ia_nil : IA X W [] wNil := pa_nil.of fun σ H Q ⟨env, S, P, PX, re, rs, h, hq, hx⟩ => hq [] S [] H h rfl (Ext.refl H) .nil rs
theorem ia_cons (ha : IE X W e wa) (hr : IA X W es was) (hs : starEach (e :: es) X.env = (false, eval e X.env) :: starEach es X.env) : IA X W (e :: es) (wCons wa was) :=
  (pa_cons ha hr hs).of fun σ H Q ⟨env, S, P, PX, re, rs, h, hq, hx⟩ => ⟨env, S, _, PX, re, rs, h, fun d S1 v1 H1 p e1 r1 s1 => ⟨env, S1, _, PX, re.ext e1, s1, p, fun ds S2 vs H2 p2 l2 e2 r2 s2 => hq _ S2 _ H2 p2 (by rw [List.length_cons, l2]; rfl) (e1.trans e2) (.cons (r1.ext e2) r2) s2, hx.ext e1⟩, hx⟩
def wTup (w : WA) : WE := fun env S P X => w env S (fun ds S1 => ds.length ≤ sizeLine ∧ P (.tup ds) S1) X
/-- a list that no one will change -/
def wLst (w : WA) : WE := fun env S P X => w env S (fun ds S1 => ds.length ≤ sizeLine ∧ P (.lst ds) S1) X
/-- a list that may be changed -/
def wNew (w : WA) : WE := fun env S P X => w env S (fun ds S1 => ds.length ≤ sizeLine ∧ ∀ p, S1 p = none → P (.ref p) (sput S1 p (.lst ds))) X
theorem ie_tup {k : Nat} (h : IA X W es was) : IE X W (.Tuple es k pos) (wTup was) :=
  (pe_tup h).of fun σ H Q ⟨env, S, P, PX, re, rs, h, hq, hx⟩ => ⟨env, S, _, PX, re, rs, h, fun ds S1 vs H1 p _ e1 r1 s1 => ⟨by rw [r1.length]; exact p.1, fun a ha => hq _ S1 _ _ p.2 (e1.trans (Ext.new ha)) (.tup (.of upd_same) (r1.ext (Ext.new ha))) (s1.new ha)⟩, hx⟩
theorem ie_new (h : IA X W es was) : IE X W (.List es pos) (wNew was) :=
  (pe_lst h).of fun σ H Q ⟨env, S, P, PX, re, rs, h, hq, hx⟩ => ⟨env, S, _, PX, re, rs, h, fun ds S1 vs H1 p _ e1 r1 s1 => ⟨by rw [r1.length]; exact p.1, fun a ha => hq _ _ _ _ (p.2 a (s1.free ha)) (e1.trans (Ext.new ha)) (.ref a) (s1.newL ha r1)⟩, hx⟩
/-- a tracked list is locked for good -/
theorem freeze {pins : List (Addr × Obj)} {σ : St} {H : Hp} {s : Shared} {p : Addr} {xs : List V} (I : Inv X pins σ H s) (h : H p = some (.lst xs)) : ∃ o, Inv X pins σ (upd H p (.frz o (.lst xs))) s := by
  have ok := I.hok p _ h
  obtain ⟨z, its, n, r, e⟩ := id ok
  generalize eo : ({ cls := .type "list", data := .seq its.toArray n } : Obj) = o at e
  have ne : ∀ {b : Addr} {u : HO}, H b = some u → HO.lst xs ≠ u → b ≠ p := fun {b u} q d z => by
    rw [z, h] at q
    exact d (Option.some.inj q)
  have nn : ∀ {b : Addr}, H b = none → b ≠ p := fun {b} q z => by
    rw [z, h] at q
    cases q
  have bs : Un X.fs X.ex X.H_0 (upd H p (.frz o (.lst xs))) X.s_0.heap s.heap :=
    { keep := I.base.keep
      slot := I.base.slot
      free := fun b ob q n hx => by
        have f := I.base.free b ob q n hx
        rw [upd_ne (nn f)]
        exact f
      there := I.base.there
      tups := fun b ys q => by
        have f := I.base.tups b ys q
        rw [upd_ne (ne f (fun z => by cases z))]
        exact f
      frzs := fun b ob u q => by
        have f := I.base.frzs b ob u q
        rw [upd_ne (ne f (fun z => by cases z))]
        exact f
      tbls := fun b ps q => by
        obtain ⟨m, f⟩ := I.base.tbls b ps q
        exact ⟨m, by rw [upd_ne (ne f (fun z => by cases z))]; exact f⟩ }
  have hk : HOk X.prog X.w (upd H p (.frz o (.lst xs))) s.heap := fun b u q => by
    by_cases hb : b = p
    · subst hb
      rw [upd_same] at q
      cases q
      exact ⟨e, ok⟩
    · rw [upd_ne hb] at q
      exact (I.hok b u q).stay (fun c v _ g => g) (fun c g => by rw [upd_ne (ne g (fun z => by cases z))]; exact g) fun c ys g => by rw [upd_ne (ne g (fun z => by cases z))]; exact g
  exact ⟨o,
    { ok := I.ok
      os := I.os
      bare := I.bare
      base := bs
      loc := I.loc
      cell := I.cell
      free := by rw [upd_ne (nn I.free)]; exact I.free
      freeC := fun x c q => by rw [upd_ne (nn (I.freeC x c q))]; exact I.freeC x c q
      pin := fun q hq => by
        obtain ⟨e1, n1, r1⟩ := I.pin q hq
        exact ⟨e1, by rw [upd_ne (nn n1)]; exact n1, r1⟩
      hok := hk
      len := I.len }⟩
theorem ie_lst (h : IA X W es was) : IE X W (.List es pos) (wLst was) := by
  refine ⟨fun pins s σ H Q I ⟨env, S, P, PX, re, rs, hw, hq, hx⟩ => ?_⟩
  refine thn ((pe_lst h).run pins s σ H (fun v H' => ∃ p ds vs H1 S1, v = .ref p ∧ H1 p = none ∧ H' = upd H1 p (.lst vs) ∧ RepL X.K H1 vs ds ∧ RepS X.K H1 S1 ∧ Ext H H1 ∧ P (.lst ds) S1) I ⟨env, S, _, PX, re, rs, hw, fun ds S1 vs H1 p _ e1 r1 s1 => ⟨by rw [r1.length]; exact p.1, fun a ha => ⟨a, ds, vs, H1, S1, rfl, ha, rfl, r1, s1, e1, p.2⟩⟩, hx⟩) fun u s1 ⟨v, H', I', rv, p, ds, vs, H1, S1, ev, np, eH, r1, s1', e1, q⟩ => ?_
  subst ev; subst eH
  obtain ⟨o, J⟩ := freeze I' upd_same
  rw [upd_upd] at J
  exact ⟨.ref p, _, J, rv, hq _ S1 _ _ q (e1.trans (Ext.new np)) (.lst (.inl ⟨o, upd_same⟩) (r1.ext (Ext.new np))) (s1'.new np)⟩
end
end PL
namespace PL
open PySem PySem.Spec L2
/-! ### data without references -/
mutual
def toP : D → PyData
  | .non => .none
  | .bl b => .bool b
  | .int i => .int i
  | .str x => .str x
  | .tup ds => .tuple (toPL ds)
  | .lst ds => .list (toPL ds)
  | .ref _ => .none
def toPL : List D → List PyData
  | [] => []
  | d :: ds => toP d :: toPL ds
end
mutual
def noref : D → Bool
  | .ref _ => false
  | .tup ds => norefL ds
  | .lst ds => norefL ds
  | .non => true
  | .bl _ => true
  | .int _ => true
  | .str _ => true
def norefL : List D → Bool
  | [] => true
  | d :: ds => noref d && norefL ds
end
section
variable {K : PySem.W.Frag} {H : Hp} {S : Sto}
mutual
theorem dp_of : ∀ {v : V} {d : D}, Rep K H v d → noref d = true → Dp K H v (toP d)
  | _, _, .non, _ => .non
  | _, _, .bl b, _ => .bl b
  | _, _, .int i, _ => .int i
  | _, _, .str x, _ => .str x
  | _, _, .ref a, h => by simp [noref] at h
  | _, .tup ds, .tup h r, n => .tup h (dpL_of r (by simpa [noref] using n))
  | _, .lst ds, .lst h r, n => .lst h.sql (dpL_of r (by simpa [noref] using n))
theorem dpL_of : ∀ {vs : List V} {ds : List D}, RepL K H vs ds → norefL ds = true → DpAll K H vs (toPL ds)
  | _, _, .nil, _ => .nil
  | _, _ :: _, .cons r t, n => by
    have n' : _ ∧ _ := Bool.and_eq_true_iff.mp (by simpa [norefL] using n)
    exact .cons (dp_of r n'.1) (dpL_of t n'.2)
end
/-- a list that may change, as it is now -/
def res (S : Sto) (d : D) : D := match d with
  | .ref a => match S a with
    | some (.lst ds) => .lst ds
    | none => d
  | _ => d
def okD (d : D) : Bool := noref d && SeqAt.shaped (toP d)
def eqD (a b : D) : Bool := PyData.eqv (toP a) (toP b)
theorem dp_res {v : V} {d : D} (r : Rep K H v d) (rs : RepS K H S) (h : okD (res S d) = true) : Dp K H v (toP (res S d)) ∧ SeqAt.shaped (toP (res S d)) = true := by
  have h' : _ ∧ _ := Bool.and_eq_true_iff.mp h
  refine ⟨?_, h'.2⟩
  have n := h'.1
  cases d with
  | ref a =>
    cases e : S a with
    | none =>
      have er : res S (.ref a) = .ref a := by simp only [res, e]
      rw [er] at n
      simp [noref] at n
    | some o =>
      cases o with
      | lst ds =>
        have er : res S (.ref a) = .lst ds := by simp only [res, e]
        rw [er] at n ⊢
        obtain ⟨vs, q, t⟩ := rs a _ e
        cases r
        exact .lst (.of q) (dpL_of t (by simpa [noref] using n))
  | non => exact dp_of r n
  | bl _ => exact dp_of r n
  | int _ => exact dp_of r n
  | str _ => exact dp_of r n
  | tup _ => exact dp_of r n
  | lst _ => exact dp_of r n
/-- the items of a list or tuple -/
def seqOf (S : Sto) (d : D) : Option (List D) := match d with
  | .tup ds => some ds
  | .lst ds => some ds
  | .ref a => match S a with
    | some (.lst ds) => some ds
    | none => none
  | _ => none
theorem seq_rep {v : V} {d : D} {ds : List D} (r : Rep K H v d) (rs : RepS K H S) (h : seqOf S d = some ds) : ∃ p vs, v = .ref p ∧ (SqL K H p vs ∨ SqT K H p vs) ∧ RepL K H vs ds := by
  cases r with
  | tup h' r' => cases h; exact ⟨_, _, rfl, .inr h', r'⟩
  | lst h' r' => cases h; exact ⟨_, _, rfl, .inl h'.sql, r'⟩
  | ref a =>
    unfold seqOf at h
    cases e : S a with
    | none => simp [e] at h
    | some o =>
      cases o with
      | lst es =>
        simp [e] at h
        subst h
        obtain ⟨vs, q, t⟩ := rs a _ e
        exact ⟨_, _, rfl, .inl (.of q), t⟩
  | non => cases h
  | bl _ => cases h
  | int _ => cases h
  | str _ => cases h
end
/-! ### operators -/
def oAdd : O2 := fun x y S P => match x, y with
  | .int i, .int j => P (.int (i + j)) S
  | .str i, .str j => i.length + j.length ≤ sizeLine ∧ P (.str (i ++ j)) S
  | .tup i, .tup j => i.length + j.length ≤ sizeLine ∧ P (.tup (i ++ j)) S
  | .lst i, .lst j => i.length + j.length ≤ sizeLine ∧ P (.lst (i ++ j)) S
  | _, _ => False
def oSub : O2 := fun x y S P => match x, y with
  | .int i, .int j => P (.int (i - j)) S
  | _, _ => False
def oMul : O2 := fun x y S P => match x, y with
  | .int i, .int j => CMulW i j ∧ P (.int (i * j)) S
  | _, _ => False
def oDiv : O2 := fun x y S P => match x, y with
  | .int i, .int j => CDivW i j ∧ P (.int (i / j)) S
  | _, _ => False
def oMod : O2 := fun x y S P => match x, y with
  | .int i, .int j => 0 < j ∧ P (.int (i % j)) S
  | _, _ => False
def oPow : O2 := fun x y S P => match x, y with
  | .int i, .int j => CPow i j ∧ P (.int (i ^ j.toNat)) S
  | _, _ => False
def oNeg : O1 := fun x S P => match x with
  | .int i => P (.int (-i)) S
  | _ => False
def oCmpI (f : Int → Int → Bool) : O2 := fun x y S P => match x, y with
  | .int i, .int j => P (.bl (f i j)) S
  | _, _ => False
def oEq : O2 := fun x y S P => match x, y with
  | .str a, .str b => P (.bl (decide (a = b))) S
  | x, y => okD (res S x) = true ∧ okD (res S y) = true ∧ P (.bl (eqD (res S x) (res S y))) S
def oNe : O2 := fun x y S P => match x, y with
  | .str a, .str b => P (.bl (!decide (a = b))) S
  | x, y => okD (res S x) = true ∧ okD (res S y) = true ∧ P (.bl (!eqD (res S x) (res S y))) S
def isNon : D → Bool
  | .non => true
  | _ => false
def oIs : O2 := fun x y S P => match y with
  | .non => P (.bl (isNon x)) S
  | .bl b => match x with
    | .bl a => P (.bl (decide (a = b))) S
    | _ => False
  | _ => False
def oIsNot : O2 := fun x y S P => match y with
  | .non => P (.bl (!isNon x)) S
  | .bl b => match x with
    | .bl a => P (.bl (!decide (a = b))) S
    | _ => False
  | _ => False
section
variable {X : Cx}
/-- a new list is laid, and locked -/
theorem new_lst {pins : List (Addr × Obj)} {σ : St} {H : Hp} {s : Shared} {S : Sto} {P : PD} {m : Sem Value} {vs : List V} {ds : List D}
    (h : ∀ Q : VK, (∀ p, H p = none → Q (.ref p) (upd H p (.lst vs))) → wpAny (model X.prog X.w) X.A m (EP X pins σ Q) X.xe s) (r : RepL X.K H vs ds) (rs : RepS X.K H S) (p : P (.lst ds) S) : StepsE X pins σ H P m s := by
  intro Q hq
  refine thn (h (fun v H' => ∃ p, v = .ref p ∧ H p = none ∧ H' = upd H p (.lst vs)) fun p np => ⟨p, rfl, np, rfl⟩) fun u s1 ⟨v, H', I', rv, p, ev, np, eH⟩ => ?_
  subst ev; subst eH
  obtain ⟨o, J⟩ := freeze I' upd_same
  rw [upd_upd] at J
  exact ⟨.ref p, _, J, rv, hq _ S _ _ (by assumption) (Ext.new np) (.lst (.inl ⟨o, upd_same⟩) (r.ext (Ext.new np))) (rs.new np)⟩
theorem fz_list {pins : List (Addr × Obj)} {σ : St} {H : Hp} {s : Shared} {a : Addr} {xs : List V} (I : L2.Inv X pins σ H s) (h : FzL X.K H a xs) : ∃ its : List Value, Vals xs its ∧ PlainL s.heap a its.toArray ∧ xs.length ≤ sizeLine := I.list h.sql
theorem d_add : D2 X (binaryOp .Add) oAdd := by
  intro pins s σ H S x y xv yv v u P I rx ry r1 r2 rs h Q hq
  cases r1 with
  | int i =>
    cases r2 with
    | int j => exact op_add pins s σ H _ _ v u Q I rx ry ⟨i, j, rfl, rfl, hq.here h (.int _) rs⟩
    | _ => exact h.elim
  | str i =>
    cases r2 with
    | str j => exact op_add_str pins s σ H _ _ v u Q I rx ry ⟨i, j, rfl, rfl, h.1, hq.here h.2 (.str _) rs⟩
    | _ => exact h.elim
  | tup h1 t1 =>
    cases r2 with
    | tup h2 t2 =>
      obtain ⟨hz, q⟩ := h
      refine op_catA pins s σ H _ _ v u Q I rx ry ⟨_, _, _, _, rfl, rfl, h1, h2, by rw [t1.length, t2.length]; exact hz, fun z => ?_, fun _ z => ?_, fun _ _ p np => ?_⟩
      · subst z; cases t1
        exact hq.here q (.tup h2 t2) rs
      · subst z; cases t2; rw [List.append_nil] at q
        exact hq.here q (.tup h1 t1) rs
      · exact hq _ S _ _ q (Ext.new np) (.tup (.of upd_same) ((t1.append t2).ext (Ext.new np))) (rs.new np)
    | _ => exact h.elim
  | lst h1 t1 =>
    cases r2 with
    | lst h2 t2 =>
      obtain ⟨hz, q⟩ := h
      obtain ⟨i1, v1, l1, z1⟩ := fz_list I h1
      obtain ⟨i2, v2, l2, z2⟩ := fz_list I h2
      cases rx
      cases ry
      have len1 := v1.length
      have len2 := v2.length
      have len3 := t1.length
      have len4 := t2.length
      refine new_lst (S := S) (P := P) (vs := _ ++ _) (fun Q' hq' => ?_) (t1.append t2) rs q Q hq
      obtain ⟨⟨cl, dd, da, sl⟩, n, ho, hc, hdi, hd⟩ := l1
      obtain ⟨⟨cl2, dd2, da2, sl2⟩, n2, ho2, hc2, hdi2, hd2⟩ := l2
      simp only at hc hd hc2 hd2
      subst hc hd hc2 hd2
      refine concat_meets ⟨_, ho, rfl⟩ ⟨_, ho2, rfl⟩ noFill_list_add seq_list_add PySem.F.slot_list_add PySem.F.entry_list_add (PySem.F.args_list_add_2 _ _) (PyProof.Rows.list_addW _ _ i1.toArray i2.toArray n n2 dd dd2 sl sl2 (by rw [List.size_toArray, List.size_toArray]; omega)) ⟨ho, ho2, ?_⟩
      have e : i1.toArray ++ i2.toArray = (i1 ++ i2).toArray := by simp
      rw [e]
      exact ⟨.ref _, _, I.lnew (t' := s.toks) (v1.append v2) (by rw [List.length_append]; omega), rfl, hq' _ I.fresh⟩
    | _ => exact h.elim
  | _ => exact h.elim
theorem d_ii {f : Value → Value → Sem Value} {C : Int → Int → Prop} {g : Int → Int → V} {o : O2} (ho : OpR X f (rI C g)) (hs : ∀ x y S P, o x y S P → ∃ i j d, x = .int i ∧ y = .int j ∧ C i j ∧ P d S ∧ ∀ K H, Rep K H (g i j) d) : D2 X f o := by
  intro pins s σ H S x y xv yv v u P I rx ry r1 r2 rs h Q hq
  obtain ⟨i, j, d, rfl, rfl, c, p, rd⟩ := hs x y S P h
  cases r1; cases r2
  exact ho pins s σ H _ _ v u Q I rx ry ⟨i, j, rfl, rfl, c, hq.here p (rd _ _) rs⟩
theorem d_i0 {f : Value → Value → Sem Value} {g : Int → Int → V} {o : O2} (ho : OpR X f (rI0 g)) (hs : ∀ x y S P, o x y S P → ∃ i j d, x = .int i ∧ y = .int j ∧ P d S ∧ ∀ K H, Rep K H (g i j) d) : D2 X f o := by
  intro pins s σ H S x y xv yv v u P I rx ry r1 r2 rs h Q hq
  obtain ⟨i, j, d, rfl, rfl, p, rd⟩ := hs x y S P h
  cases r1; cases r2
  exact ho pins s σ H _ _ v u Q I rx ry ⟨i, j, rfl, rfl, hq.here p (rd _ _) rs⟩
theorem d_sub : D2 X (binaryOp .Sub) oSub := d_i0 op_sub fun x y S P h => by
  cases x <;> first | exact h.elim | skip
  cases y <;> first | exact h.elim | exact ⟨_, _, _, rfl, rfl, h, fun _ _ => .int _⟩
theorem d_mul : D2 X (binaryOp .Mult) oMul := d_ii op_mulW fun x y S P h => by
  cases x <;> first | exact h.elim | skip
  cases y <;> first | exact h.elim | exact ⟨_, _, _, rfl, rfl, h.1, h.2, fun _ _ => .int _⟩
theorem d_div : D2 X (binaryOp .FloorDiv) oDiv := d_ii op_fdivW fun x y S P h => by
  cases x <;> first | exact h.elim | skip
  cases y <;> first | exact h.elim | exact ⟨_, _, _, rfl, rfl, h.1, h.2, fun _ _ => .int _⟩
theorem d_mod : D2 X (binaryOp .Mod) oMod := d_ii op_mod fun x y S P h => by
  cases x <;> first | exact h.elim | skip
  cases y <;> first | exact h.elim | exact ⟨_, _, _, rfl, rfl, h.1, h.2, fun _ _ => .int _⟩
theorem d_pow : D2 X (binaryOp .Pow) oPow := d_ii op_pow fun x y S P h => by
  cases x <;> first | exact h.elim | skip
  cases y <;> first | exact h.elim | exact ⟨_, _, _, rfl, rfl, h.1, h.2, fun _ _ => .int _⟩
theorem d_neg : D1 X (unaryOp .USub) oNeg := by
  intro pins s σ H S x xv v P I rx r1 rs h Q hq
  cases r1 with
  | int i => exact un_neg pins s σ H _ v Q I rx ⟨i, rfl, hq.here h (.int _) rs⟩
  | _ => exact h.elim
theorem d_cmpI {op : CmpOp} {f : Int → Int → Bool} (ho : OpR X (compareOp op) (rI0 fun i j => .bl (f i j))) : D2 X (compareOp op) (oCmpI f) := d_i0 ho fun x y S P h => by
  cases x <;> first | exact h.elim | skip
  cases y <;> first | exact h.elim | exact ⟨_, _, _, rfl, rfl, h, fun _ _ => .bl _⟩
theorem d_lt : D2 X (compareOp .Lt) (oCmpI fun i j => decide (i < j)) := d_cmpI op_lt
theorem d_le : D2 X (compareOp .LtE) (oCmpI fun i j => decide (i ≤ j)) := d_cmpI op_le
theorem d_gt : D2 X (compareOp .Gt) (oCmpI fun i j => decide (j < i)) := d_cmpI op_gt
theorem d_ge : D2 X (compareOp .GtE) (oCmpI fun i j => decide (j ≤ i)) := d_cmpI op_ge
theorem dec_strV {i j : Str} : decide (V.str i = V.str j) = decide (i = j) := by
  rw [Bool.eq_iff_iff]
  simp
theorem d_eq (hu : X.A.units + 64 < cLine) : D2 X (compareOp .Eq) oEq := by
  intro pins s σ H S x y xv yv v u P I rx ry r1 r2 rs h Q hq
  have gen : okD (res S x) = true ∧ okD (res S y) = true ∧ P (.bl (eqD (res S x) (res S y))) S → _ := fun h => by
    obtain ⟨h1, s1⟩ := dp_res r1 rs h.1
    obtain ⟨h2, s2⟩ := dp_res r2 rs h.2.1
    exact op_eqD hu pins s σ H _ _ v u Q I rx ry ⟨_, _, h1, h2, s1, s2, hq.here h.2.2 (.bl _) rs⟩
  cases x with
  | str a =>
    cases y with
    | str b =>
      cases r1; cases r2
      exact op_eq pins s σ H _ _ v u Q I rx ry ⟨rfl, hq.here (d := .bl _) (by rw [dec_strV]; exact h) (.bl _) rs⟩
    | _ => exact gen h
  | _ => exact gen h
theorem d_ne (hu : X.A.units + 64 < cLine) : D2 X (compareOp .NotEq) oNe := by
  intro pins s σ H S x y xv yv v u P I rx ry r1 r2 rs h Q hq
  have gen : okD (res S x) = true ∧ okD (res S y) = true ∧ P (.bl (!eqD (res S x) (res S y))) S → _ := fun h => by
    obtain ⟨h1, s1⟩ := dp_res r1 rs h.1
    obtain ⟨h2, s2⟩ := dp_res r2 rs h.2.1
    exact op_neD hu pins s σ H _ _ v u Q I rx ry ⟨_, _, h1, h2, s1, s2, hq.here h.2.2 (.bl _) rs⟩
  cases x with
  | str a =>
    cases y with
    | str b =>
      cases r1; cases r2
      exact op_ne pins s σ H _ _ v u Q I rx ry ⟨rfl, hq.here (d := .bl _) (by rw [dec_strV]; exact h) (.bl _) rs⟩
    | _ => exact gen h
  | _ => exact gen h
theorem isNon_rep {K : PySem.W.Frag} {H : Hp} {v : V} {d : D} (r : Rep K H v d) : decide (v = .non) = isNon d := by cases r <;> simp [isNon]
theorem d_is : D2 X (compareOp .Is) oIs := by
  intro pins s σ H S x y xv yv v u P I rx ry r1 r2 rs h Q hq
  cases r2 with
  | non => exact op_isN pins s σ H _ _ v u Q I rx ry ⟨rfl, hq.here (d := .bl _) (by rw [isNon_rep r1]; exact h) (.bl _) rs⟩
  | bl b =>
    cases r1 with
    | bl a => exact op_isBl pins s σ H _ _ v u Q I rx ry ⟨a, b, rfl, rfl, hq.here h (.bl _) rs⟩
    | _ => exact h.elim
  | _ => exact h.elim
theorem d_isnot : D2 X (compareOp .IsNot) oIsNot := by
  intro pins s σ H S x y xv yv v u P I rx ry r1 r2 rs h Q hq
  cases r2 with
  | non => exact op_notN pins s σ H _ _ v u Q I rx ry ⟨rfl, hq.here (d := .bl _) (by rw [isNon_rep r1]; exact h) (.bl _) rs⟩
  | bl b =>
    cases r1 with
    | bl a => exact op_notBl pins s σ H _ _ v u Q I rx ry ⟨a, b, rfl, rfl, hq.here h (.bl _) rs⟩
    | _ => exact h.elim
  | _ => exact h.elim
/-! ### a place -/
def oIdx : O2 := fun x y S P => match y with
  | .int i => match x with
    | .str z => z.length ≤ sizeLine ∧ (match atI z.cps.toList i with
      | some c => P (.str ⟨#[c]⟩) S
      | none => False)
    | _ => match seqOf S x with
      | some ds => (match atI ds i with
        | some d => P d S
        | none => False)
      | none => False
  | _ => False
theorem atI_rep {K : PySem.W.Frag} {H : Hp} {vs : List V} {ds : List D} (r : RepL K H vs ds) {i : Int} {d : D} (h : atI ds i = some d) : ∃ v, atI vs i = some v ∧ Rep K H v d := by
  unfold atI at h ⊢
  rw [r.length]
  cases e : ixN ds.length i with
  | none => rw [e] at h; cases h
  | some j =>
    rw [e] at h
    exact r.get h
variable {W : WX} {a b e : Expr} {wa wb : WE} {pos : Pos}
theorem oIdx_of {x : D} {i : Int} {S : Sto} {P : PD} (h : oIdx x (.int i) S P) : (∃ z c, x = .str z ∧ z.length ≤ sizeLine ∧ atI z.cps.toList i = some c ∧ P (.str ⟨#[c]⟩) S) ∨ ∃ ds d, seqOf S x = some ds ∧ atI ds i = some d ∧ P d S := by
  have seq : (match seqOf S x with
      | some ds => (match atI ds i with
        | some d => P d S
        | none => False)
      | none => False) → ∃ ds d, seqOf S x = some ds ∧ atI ds i = some d ∧ P d S := fun h => by
    cases e : seqOf S x with
    | none => rw [e] at h; exact h.elim
    | some ds =>
      rw [e] at h
      have h' : (match atI ds i with
        | some d => P d S
        | none => False) := h
      cases e2 : atI ds i with
      | none => rw [e2] at h'; exact h'.elim
      | some d => rw [e2] at h'; exact ⟨ds, d, rfl, e2, h'⟩
  cases x with
  | str z =>
    have h' : z.length ≤ sizeLine ∧ (match atI z.cps.toList i with
      | some c => P (.str ⟨#[c]⟩) S
      | none => False) := h
    cases e2 : atI z.cps.toList i with
    | none => rw [e2] at h'; exact h'.2.elim
    | some c => rw [e2] at h'; exact .inl ⟨z, c, rfl, h'.1, e2, h'.2⟩
  | _ => exact .inr (seq h)
theorem ie_idx (ha : IE X W a wa) (hb : IE X W b wb) (hs : PlainIx b) : IE X W (.Subscript a b pos) (w2 oIdx wa wb) :=
  (pe_ix ix_seq ha hb hs).of fun σ H Q h => two (fun x y H Q ⟨dx, dy, S, P, r1, r2, rs, ho, hq⟩ => by
    cases dy with
    | int i =>
      cases r2
      rcases oIdx_of ho with ⟨z, c, rfl, hz, ec, q⟩ | ⟨ds, d, es, ed, q⟩
      · cases r1
        exact .inr (.inr ⟨_, _, _, rfl, rfl, hz, ec, hq.here q (.str _) rs⟩)
      · obtain ⟨p, vs, rfl, hl, rl⟩ := seq_rep r1 rs es
        obtain ⟨v, ev, rv⟩ := atI_rep rl ed
        rcases hl with hl | hl
        · exact .inl ⟨p, vs, i, v, rfl, rfl, hl, ev, hq.here q rv rs⟩
        · exact .inr (.inl ⟨p, vs, i, v, rfl, rfl, hl, ev, hq.here q rv rs⟩)
    | _ => exact ho.elim) σ H Q h
end
end PL
namespace PL
open PySem PySem.Spec L2
/-! ### calls of built-ins, by data -/
section
variable {X : Cx} {W : WX} {a b e : Expr} {es : List Expr} {wa wb : WE} {was : WA} {pos p apos : Pos} {x : Str}
theorem DN.call {f : Value} {o : ON} (h : DN X (fun us => call f us) o) : CallR X f (fun xs H Q => ∃ ds S P, RepL X.K H xs ds ∧ RepS X.K H S ∧ o ds S P ∧ okE X.K H P Q) :=
  fun pins s σ H xs us Q I r ⟨ds, S, P, rl, rs, ho, hq⟩ => h pins s σ H S ds xs us P I r rl rs ho Q hq
def wN (o : ON) (was : WA) : WE := fun env S P X => was env S (fun ds S1 => o ds S1 P) X
theorem argsN {o : ON} (σ : St) (H : Hp) (Q : VK) (h : tE X.K X.mg W (wN o was) σ H Q) : tCB (fun xs H Q => ∃ ds S P, RepL X.K H xs ds ∧ RepS X.K H S ∧ o ds S P ∧ okE X.K H P Q) (tA X.K X.mg W (e :: es).length was) σ H Q := by
  obtain ⟨env, S, P, PX, re, rs, h, hq, hx⟩ := h
  exact ⟨env, S, _, PX, re, rs, h, fun ds S1 vs H1 p _ e1 r1 s1 => ⟨ds, S1, P, r1, s1, p, hq.ext e1⟩, hx⟩
theorem ie_blt {id : String} {o : ON} (hc : DN X (fun us => call (.builtin id) us) o) (hg : Gl X x) (hm : X.mg x = none) (hv : bootBuiltins x = some (.builtin id)) (ha : IA X W (e :: es) was) (hn : x ≠ "__name__") (hdb : (x == ("__debug__" : Str)) = false)
    (he : starEach (e :: es) X.env = (false, eval e X.env) :: starEach es X.env) (hpl : (backTo pos (starEach es X.env)).any (·.1) = false) : IE X W (.Call (.Name x p) (e :: es) [] pos) (wN o was) :=
  (pe_callB hc.call hg hm hv ha hn hdb he hpl).of fun σ H Q h => argsN σ H Q h
theorem ie_typ {T : String} {o : ON} (hc : DN X (fun us => call (.type T) us) o) (hg : Gl X x) (hm : X.mg x = none) (hv : bootBuiltins x = some (.type T)) (ha : IA X W (e :: es) was) (hn : x ≠ "__name__") (hdb : (x == ("__debug__" : Str)) = false)
    (he : starEach (e :: es) X.env = (false, eval e X.env) :: starEach es X.env) (hpl : (backTo pos (starEach es X.env)).any (·.1) = false) : IE X W (.Call (.Name x p) (e :: es) [] pos) (wN o was) :=
  (pe_callTy hc.call hg hm hv ha hn hdb he hpl).of fun σ H Q h => argsN σ H Q h
theorem ie_imp {id : String} {o : ON} (hc : DN X (fun us => call (.builtin id) us) o) (hg : Gl X x) (hm : X.mg x = some (.builtin id)) (ha : IA X W (e :: es) was) (hdb : (x == ("__debug__" : Str)) = false)
    (he : starEach (e :: es) X.env = (false, eval e X.env) :: starEach es X.env) (hpl : (backTo pos (starEach es X.env)).any (·.1) = false) : IE X W (.Call (.Name x p) (e :: es) [] pos) (wN o was) :=
  (pe_callBfun hc.call hg hm ha hdb he hpl).of fun σ H Q h => argsN σ H Q h
/-! the built-ins -/
def oAbs : ON := fun xs S P => match xs with
  | [.int i] => P (.int (if i < 0 then -i else i)) S
  | _ => False
def oInt : ON := fun xs S P => match xs with
  | [.int i] => P (.int i) S
  | [.bl k] => P (.int (if k then 1 else 0)) S
  | _ => False
def oGcd : ON := fun xs S P => match xs with
  | [.int i, .int j] => P (.int ((Nat.gcd i.natAbs j.natAbs : Nat) : Int)) S
  | _ => False
def oLen : ON := fun xs S P => match xs with
  | [.str z] => z.length ≤ sizeLine ∧ P (.int z.length) S
  | [d] => match seqOf S d with
    | some ds => P (.int ds.length) S
    | none => False
  | _ => False
def oTuple : ON := fun xs S P => match xs with
  | [d] => match seqOf S d with
    | some ds => P (.tup ds) S
    | none => False
  | _ => False
def shownD (d : D) : Str := (toP d).shown
def oRepr : ON := fun xs S P => match xs with
  | [d] => okD (res S d) = true ∧ (toP (res S d)).showable = true ∧ (shownD (res S d)).length ≤ sizeLine ∧ P (.str (shownD (res S d))) S
  | _ => False
theorem rl1 {K : PySem.W.Frag} {H : Hp} {vs : List V} {d : D} (r : RepL K H vs [d]) : ∃ v, vs = [v] ∧ Rep K H v d := by
  cases r with
  | cons r t => cases t; exact ⟨_, rfl, r⟩
theorem rl2 {K : PySem.W.Frag} {H : Hp} {vs : List V} {d e : D} (r : RepL K H vs [d, e]) : ∃ v u, vs = [v, u] ∧ Rep K H v d ∧ Rep K H u e := by
  cases r with
  | cons r t =>
    obtain ⟨u, rfl, q⟩ := rl1 t
    exact ⟨_, _, rfl, r, q⟩
theorem n_abs : DN X (fun us => call (.builtin "abs") us) oAbs := by
  intro pins s σ H S xs xvs us P I rv r rs h Q hq
  match xs, h with
  | [.int i], h =>
    obtain ⟨v, rfl, q⟩ := rl1 r
    cases q
    exact call_abs pins s σ H _ us Q I rv ⟨i, rfl, hq.here h (.int _) rs⟩
theorem n_int : DN X (fun us => call (.type "int") us) oInt := by
  intro pins s σ H S xs xvs us P I rv r rs h Q hq
  match xs, h with
  | [.int i], h =>
    obtain ⟨v, rfl, q⟩ := rl1 r
    cases q
    exact call_int1 pins s σ H _ us Q I rv (.inl ⟨i, rfl, hq.here h (.int _) rs⟩)
  | [.bl k], h =>
    obtain ⟨v, rfl, q⟩ := rl1 r
    cases q
    exact call_int1 pins s σ H _ us Q I rv (.inr ⟨k, rfl, hq.here h (.int _) rs⟩)
theorem n_gcd : DN X (fun us => call (.builtin "math.gcd") us) oGcd := by
  intro pins s σ H S xs xvs us P I rv r rs h Q hq
  match xs, h with
  | [.int i, .int j], h =>
    obtain ⟨v, u, rfl, q1, q2⟩ := rl2 r
    cases q1; cases q2
    exact cr_gcd pins s σ H _ us Q I rv ⟨i, j, rfl, hq.here h (.int _) rs⟩
theorem oLen_of {xs : List D} {S : Sto} {P : PD} (h : oLen xs S P) : (∃ z, xs = [.str z] ∧ z.length ≤ sizeLine ∧ P (.int z.length) S) ∨ ∃ d ds, xs = [d] ∧ seqOf S d = some ds ∧ P (.int ds.length) S := by
  cases xs with
  | nil => exact h.elim
  | cons d r =>
    cases r with
    | cons e r => cases d <;> exact h.elim
    | nil =>
      cases d with
      | str z => exact .inl ⟨z, rfl, h⟩
      | tup ds => exact .inr ⟨_, ds, rfl, rfl, h⟩
      | lst ds => exact .inr ⟨_, ds, rfl, rfl, h⟩
      | ref a =>
        cases e : seqOf S (.ref a) with
        | none => simp only [oLen, e] at h
        | some ds => simp only [oLen, e] at h; exact .inr ⟨_, ds, rfl, e, h⟩
      | non => exact h.elim
      | bl _ => exact h.elim
      | int _ => exact h.elim
theorem n_len : DN X (fun us => call (.builtin "len") us) oLen := by
  intro pins s σ H S xs xvs us P I rv r rs h Q hq
  rcases oLen_of h with ⟨z, rfl, hz, h⟩ | ⟨d, ds, rfl, e, h⟩
  · obtain ⟨v, rfl, q⟩ := rl1 r
    cases q
    exact call_len_str pins s σ H _ us Q I rv ⟨z, rfl, hz, hq.here h (.int _) rs⟩
  · obtain ⟨v, rfl, q⟩ := rl1 r
    obtain ⟨p, vs, rfl, hl, rl⟩ := seq_rep q rs e
    exact call_len_seq pins s σ H _ us Q I rv ⟨p, vs, rfl, hl, hq.here (d := .int _) (by rw [rl.length]; exact h) (.int _) rs⟩
theorem oTuple_of {xs : List D} {S : Sto} {P : PD} (h : oTuple xs S P) : ∃ d ds, xs = [d] ∧ seqOf S d = some ds ∧ P (.tup ds) S := by
  match xs, h with
  | [d], h =>
    cases e : seqOf S d with
    | none => simp only [oTuple, e] at h
    | some ds => simp only [oTuple, e] at h; exact ⟨d, ds, rfl, e, h⟩
theorem n_tuple : DN X (fun us => call (.type "tuple") us) oTuple := by
  intro pins s σ H S xs xvs us P I rv r rs h Q hq
  obtain ⟨d, ds, rfl, e, h⟩ := oTuple_of h
  obtain ⟨v, rfl, q⟩ := rl1 r
  obtain ⟨p, vs, rfl, hl, rl⟩ := seq_rep q rs e
  refine call_tuple_of pins s σ H _ us Q I rv ⟨p, vs, rfl, ?_⟩
  rcases hl with hl | hl
  · exact .inl ⟨hl, fun l nl => hq _ S _ _ h (Ext.new nl) (.tup (.of upd_same) (rl.ext (Ext.new nl))) (rs.new nl)⟩
  · exact .inr ⟨hl, hq.here h (.tup hl rl) rs⟩
theorem n_repr (hg : X.A.guards = some []) (hu : X.A.units + 66 < cLine) : DN X (fun us => call (.builtin "repr") us) oRepr := by
  intro pins s σ H S xs xvs us P I rv r rs h Q hq
  match xs, h with
  | [d], h =>
    obtain ⟨ok, hs, hz, h⟩ := h
    obtain ⟨v, rfl, q⟩ := rl1 r
    obtain ⟨u, rfl, ru⟩ := vals1 rv
    obtain ⟨hd, sh⟩ := dp_res q rs ok
    obtain ⟨as, rd⟩ := Dp.reads I _ _ _ hd ru
    have nd := PyData.hasDict_of_canLay _ (SeqAt.canLay_of_shaped sh)
    have dep := SeqAt.depth_of_shaped sh
    have fin : ∀ a, v = .ref a → wpAny (model X.prog X.w) X.A (call (.builtin "repr") [u]) (EP X pins σ Q) X.xe s := fun a ev => by
      subst ev
      have eu : u = .ref a := ru
      subst eu
      exact repr_of_reads' rd hs (PyData.noDict_hsm nd) hg (by omega) (fun _ _ z => z) (fun h' t tk k => ⟨.str _, H, I.kept (t' := tk) k, ⟨_, rfl⟩, hq.here h (.str _) rs⟩) hz
    have one : ∀ {x : Str}, x = shownD (res S d) → EP X pins σ Q (.str x s.toks) { s with toks := s.toks + 1 } := fun {x} e => by
      subst e
      exact ⟨.str _, H, I.tok _, ⟨_, rfl⟩, hq.here h (.str _) rs⟩
    cases q with
    | non =>
      have eu : u = .none := ru
      subst eu
      exact PySem.P.repr_of_none (one rfl)
    | bl b =>
      have eu : u = .bool b := ru
      subst eu
      refine PySem.P.repr_of_bool (one ?_)
      cases b <;> rfl
    | int i =>
      obtain ⟨t, rfl⟩ := ru
      exact PySem.P.repr_of_int (of_decide_eq_true hs) (one rfl)
    | str x =>
      obtain ⟨t, rfl⟩ := ru
      exact PySem.P.repr_of_str (one rfl) hz
    | ref a => exact fin a rfl
    | tup _ _ => exact fin _ rfl
    | lst _ _ => exact fin _ rfl
end
end PL
namespace PL
open PySem PySem.Spec L2
/-! ### statements -/
structure EndD where
  nx : Env → Sto → Prop
  rt : PD
  bk : Env → Sto → Prop := fun _ _ => False
  ct : Env → Sto → Prop := fun _ _ => False
abbrev XS := XD → Env → Sto → Prop
abbrev WS := EndD → XS → Env → Sto → Prop
section
variable (K : PySem.W.Frag) (mg : Str → Option Value) (W : WX)
def okN (H0 : Hp) (p : Env → Sto → Prop) (q : St → Hp → Prop) : Prop := ∀ env S σ H', p env S → Ext H0 H' → RepE K H' σ env → RepS K H' S → q σ H'
structure okS (H0 : Hp) (P : EndD) (D : Ends) : Prop where
  nx : okN K H0 P.nx D.nx
  rt : okE K H0 P.rt D.rt
  bk : okN K H0 P.bk D.bk
  ct : okN K H0 P.ct D.ct
def okXS (H0 : Hp) (X : XS) : Prop := ∀ x env S cls dd σ H', X x env S → Ext H0 H' → RepE K H' σ env → RepX K mg H' cls dd x → RepS K H' S → W cls dd σ H'
def tS (w : WS) : TS := fun D σ H => ∃ env S P X, RepE K H σ env ∧ RepS K H S ∧ w P X env S ∧ okS K H P D ∧ okXS K mg W H X
end
section
variable {K : PySem.W.Frag} {mg : Str → Option Value} {W : WX} {H H1 : Hp} {σ : St} {env : Env} {X : XS} {P : EndD} {D : Ends}
theorem okN.ext {p : Env → Sto → Prop} {q : St → Hp → Prop} (h : okN K H p q) (e : Ext H H1) : okN K H1 p q := fun env S σ H' a b c d => h env S σ H' a (e.trans b) c d
theorem okS.ext (h : okS K H P D) (e : Ext H H1) : okS K H1 P D := ⟨h.nx.ext e, h.rt.ext e, h.bk.ext e, h.ct.ext e⟩
theorem okXS.ext (h : okXS K mg W H X) (e : Ext H H1) : okXS K mg W H1 X := fun x env S c d σ H' a b r t s => h x env S c d σ H' a (e.trans b) r t s
/-- what an expression lets out, at the slots -/
theorem okXS.at (h : okXS K mg W H X) (r : RepE K H σ env) : okX K mg W H σ (fun x S => X x env S) := fun x S' c d H' a b t s => h x env S' c d σ H' a b (r.ext b) t s
end
abbrev IS (X : Cx) (W : WX) (st : Stmt) (w : WS) : Prop := PS X st (tS X.K X.mg W w)
abbrev ISs (X : Cx) (W : WX) (sts : List Stmt) (w : WS) : Prop := PSs X sts (tS X.K X.mg W w)
theorem _root_.L2.PS.of {X : Cx} {e : Stmt} {t u : TS} (h : PS X e t) (i : ∀ D σ H, u D σ H → t D σ H) : PS X e u := ⟨fun pins s σ H D I q => h.run pins s σ H D I (i D σ H q)⟩
theorem _root_.L2.PSs.of {X : Cx} {e : List Stmt} {t u : TS} (h : PSs X e t) (i : ∀ D σ H, u D σ H → t D σ H) : PSs X e u := ⟨fun pins s σ H D I q => h.run pins s σ H D I (i D σ H q)⟩
section
variable {X : Cx} {W : WX} {st : Stmt} {sts rest a b : List Stmt} {e c : Expr} {w : WE} {wb : WB} {u v : WS} {pos : Pos}
def sSkip : WS := fun P _ env S => P.nx env S
def sSeq (u v : WS) : WS := fun P X env S => u { P with nx := fun e s => v P X e s } X env S
theorem is_nil : ISs X W [] sSkip := pss_nil.of fun D σ H ⟨env, S, P, x, re, rs, h, hq, hx⟩ => hq.nx env S σ H h (Ext.refl H) re rs
theorem is_one (h : IS X W st u) : ISs X W [st] u := pss_one h
theorem is_cons (h : IS X W st u) (h2 : ISs X W rest v) : ISs X W (st :: rest) (sSeq u v) :=
  (pss_cons h h2).of fun D σ H ⟨env, S, P, x, re, rs, h, hq, hx⟩ => ⟨env, S, _, x, re, rs, h, ⟨fun env' S' σ' H' p e1 r1 s1 => ⟨env', S', P, x, r1, s1, p, hq.ext e1, hx.ext e1⟩, hq.rt, hq.bk, hq.ct⟩, hx⟩
theorem is_pass : IS X W (.Pass pos) sSkip := ps_pass.of fun D σ H ⟨env, S, P, x, re, rs, h, hq, hx⟩ => hq.nx env S σ H h (Ext.refl H) re rs
def sBreak : WS := fun P _ env S => P.bk env S
def sCont : WS := fun P _ env S => P.ct env S
theorem is_break : IS X W (.Break pos) sBreak := ps_break.of fun D σ H ⟨env, S, P, x, re, rs, h, hq, hx⟩ => hq.bk env S σ H h (Ext.refl H) re rs
theorem is_cont : IS X W (.Continue pos) sCont := ps_continue.of fun D σ H ⟨env, S, P, x, re, rs, h, hq, hx⟩ => hq.ct env S σ H h (Ext.refl H) re rs
theorem is_doc {x : Str} {j : Nat} {p2 : Pos} : IS X W (.Expr (.Constant (.str x) j p2) pos) sSkip := ps_doc.of fun D σ H ⟨env, S, P, x, re, rs, h, hq, hx⟩ => hq.nx env S σ H h (Ext.refl H) re rs
def sExpr (w : WE) : WS := fun P X env S => w env S (fun _ S' => P.nx env S') (fun x S' => X x env S')
theorem is_expr (he : IE X W e w) (hs : swapsWith e none pos.line X.env = pure false) : IS X W (.Expr e pos) (sExpr w) :=
  (ps_expr he hs).of fun D σ H ⟨env, S, P, x, re, rs, h, hq, hx⟩ => ⟨env, S, _, _, re, rs, h, fun d S' v' H' p e1 r1 s1 => hq.nx _ _ _ _ p e1 (re.ext e1) s1, hx.at re⟩
def sRet (w : WE) : WS := fun P X env S => w env S P.rt (fun x S' => X x env S')
theorem is_ret (he : IE X W e w) : IS X W (.Return (some e) pos) (sRet w) :=
  (ps_ret he).of fun D σ H ⟨env, S, P, x, re, rs, h, hq, hx⟩ => ⟨env, S, _, _, re, rs, h, hq.rt, hx.at re⟩
def sRetN : WS := fun P _ _ S => P.rt .non S
theorem is_retN : IS X W (.Return none pos) sRetN := ps_retN.of fun D σ H ⟨env, S, P, x, re, rs, h, hq, hx⟩ => hq.rt.here h .non rs
def sIf (c : WB) (u v : WS) : WS := fun P X env S => c env S (fun k S' => if k = true then u P X env S' else v P X env S') (fun x S' => X x env S')
theorem is_if (hc : IT X W c wb) (ha : ISs X W a u) (hb : ISs X W b v) : IS X W (.If c a b pos) (sIf wb u v) :=
  (ps_if hc ha hb).of fun D σ H ⟨env, S, P, x, re, rs, h, hq, hx⟩ => ⟨env, S, _, _, re, rs, h, fun k S' H' p e1 s1 => match k, p with
    | true, p => ⟨env, S', P, x, re.ext e1, s1, p, hq.ext e1, hx.ext e1⟩
    | false, p => ⟨env, S', P, x, re.ext e1, s1, p, hq.ext e1, hx.ext e1⟩, hx.at re⟩
end
/-! ### targets -/
abbrev WG := D → Env → Sto → (Env → Sto → Prop) → PX → Prop
abbrev WGs := List D → Env → Sto → (Env → Sto → Prop) → PX → Prop
/-- only these slots have changed -/
def But (l : List Nat) (σ σ' : St) : Prop := σ'.length = σ.length ∧ ∀ i : Nat, i ∉ l → σ'[i]? = σ[i]?
theorem But.refl (l : List Nat) (σ : St) : But l σ σ := ⟨rfl, fun _ _ => rfl⟩
theorem But.trans {l : List Nat} {σ σ1 σ2 : St} (a : But l σ σ1) (b : But l σ1 σ2) : But l σ σ2 := ⟨b.1.trans a.1, fun i h => (b.2 i h).trans (a.2 i h)⟩
theorem But.mono {l m : List Nat} {σ σ' : St} (a : But l σ σ') (h : ∀ i ∈ l, i ∈ m) : But m σ σ' := ⟨a.1, fun i hi => a.2 i fun z => hi (h i z)⟩
section
variable (K : PySem.W.Frag) (mg : Str → Option Value) (W : WX) (l : List Nat)
def okG (H0 : Hp) (σ0 : St) (p : Env → Sto → Prop) (q : St → Hp → Prop) : Prop := ∀ env S σ H', p env S → Ext H0 H' → RepE K H' σ env → RepS K H' S → But l σ0 σ → q σ H'
def tG (g : WG) : TG := fun v σ H Q => ∃ d env S R X, Rep K H v d ∧ RepE K H σ env ∧ RepS K H S ∧ g d env S R X ∧ okG K l H σ R Q ∧ (∀ σ', But l σ σ' → okX K mg W H σ' X)
def tGs (g : WGs) : TGs := fun vs σ H Q => ∃ ds env S R X, RepL K H vs ds ∧ RepE K H σ env ∧ RepS K H S ∧ g ds env S R X ∧ okG K l H σ R Q ∧ (∀ σ', But l σ σ' → okX K mg W H σ' X)
end
abbrev IG (X : Cx) (W : WX) (l : List Nat) (tg : Expr) (g : WG) : Prop := PG X tg (tG X.K X.mg W l g)
abbrev IGs (X : Cx) (W : WX) (l : List Nat) (tgs : List Expr) (g : WGs) : Prop := PGs X tgs (tGs X.K X.mg W l g)
theorem _root_.L2.PG.of {X : Cx} {e : Expr} {t u : TG} (h : PG X e t) (i : ∀ v σ H Q, u v σ H Q → t v σ H Q) : PG X e u := ⟨fun pins s σ H v w Q I r q => h.run pins s σ H v w Q I r (i v σ H Q q)⟩
theorem _root_.L2.PGs.of {X : Cx} {e : List Expr} {t u : TGs} (h : PGs X e t) (i : ∀ v σ H Q, u v σ H Q → t v σ H Q) : PGs X e u := ⟨fun pins s σ H v w Q I r q => h.run pins s σ H v w Q I r (i v σ H Q q)⟩
section
variable {X : Cx} {W : WX} {l : List Nat} {e o i : Expr} {es : List Expr} {g : WG} {gs : WGs} {wo wi : WE} {pos : Pos}
def gVar (i : Nat) : WG := fun d env S R _ => R (env.set i (some d)) S
theorem ig_var {i : Nat} {x : Str} (hN : X.N.Nodup) (hi : X.N[i]? = some x) (hx : Loc X.env.scope x) (hf : X.fn x = true ∨ X.env.scope.names.lookup x = some .local) (hl : i ∈ l) : IG X W l (.Name x pos) (gVar i) :=
  (pg_name hN hi hx hf).of fun v σ H Q ⟨d, env, S, R, x, r, re, rs, h, hq, _⟩ => hq _ _ _ _ h (Ext.refl H) (re.set r) rs
    ⟨List.length_set .., fun j hj => List.getElem?_set_ne (fun (z : i = j) => hj (by rw [← z]; exact hl))⟩
def gNilD : WGs := fun ds env S R _ => ds = [] ∧ R env S
def gConsD (g : WG) (gs : WGs) : WGs := fun ds env S R X => match ds with
  | d :: r => g d env S (fun e' s' => gs r e' s' R X) X
  | [] => False
theorem igs_nil : IGs X W l [] gNilD := pgs_nil.of fun vs σ H Q ⟨ds, env, S, R, x, r, re, rs, h, hq, _⟩ => by
  obtain ⟨rfl, h⟩ := h
  cases r
  exact ⟨rfl, hq _ _ _ _ h (Ext.refl H) re rs (But.refl _ _)⟩
theorem igs_cons (h1 : IG X W l e g) (h2 : IGs X W l es gs) (hs : (assignEach (e :: es) X.env).map (·.2) = assign e X.env :: (assignEach es X.env).map (·.2)) : IGs X W l (e :: es) (gConsD g gs) :=
  (pgs_cons h1 h2 hs).of fun vs σ H Q ⟨ds, env, S, R, x, r, re, rs, h, hq, hx⟩ => by
    cases r with
    | nil => exact h.elim
    | cons r1 rr =>
      exact ⟨_, _, rfl, _, env, S, _, x, r1, re, rs, h, fun env' S' σ' H' p e1 r2 s2 b => ⟨_, env', S', R, x, rr.ext e1, r2, s2, p, fun env2 S2 σ2 H2 p2 e2 r3 s3 b2 => hq env2 S2 σ2 H2 p2 (e1.trans e2) r3 s3 (b.trans b2), fun σ3 b3 => (hx σ3 (b.trans b3)).ext e1⟩, hx⟩
def gTupD (n : Nat) (gs : WGs) : WG := fun d env S R X => match d with
  | .tup ds => ds.length = n ∧ gs ds env S R X
  | .lst ds => ds.length = n ∧ gs ds env S R X
  | .ref a => match S a with
    | some (.lst ds) => ds.length = n ∧ gs ds env S R X
    | none => False
  | _ => False
theorem ig_tup {k n : Nat} (hc : X.calm = true) (h : IGs X W l es gs) (hn : (assignEach es X.env).length = n) (hst : (assignEach es X.env).findIdx? (·.1) = none) : IG X W l (.Tuple es k pos) (gTupD n gs) :=
  ⟨fun pins s σ H v w Q I rv ⟨d, env, S, R, x, r, re, rs, h0, hq, hx⟩ => by
    cases r with
    | tup h1 t1 => exact (pg_tup hc h hn hst).run pins s σ H _ w Q I rv ⟨_, _, rfl, h1, by rw [t1.length]; exact h0.1, _, env, S, R, x, t1, re, rs, h0.2, hq, hx⟩
    | lst h1 t1 => exact (pg_lst hc h hn hst).run pins s σ H _ w Q I rv ⟨_, _, rfl, h1.sql, by rw [t1.length]; exact h0.1, _, env, S, R, x, t1, re, rs, h0.2, hq, hx⟩
    | ref a =>
      have h' : (match S a with
        | some (.lst ds) => ds.length = n ∧ gs ds env S R x
        | none => False) := h0
      cases e : S a with
      | none => rw [e] at h'; exact h'.elim
      | some o =>
        cases o with
        | lst ds =>
          rw [e] at h'
          obtain ⟨vs, q, t⟩ := rs a _ e
          exact (pg_lst hc h hn hst).run pins s σ H _ w Q I rv ⟨_, _, rfl, .of q, by rw [t.length]; exact h'.1, _, env, S, R, x, t, re, rs, h'.2, hq, hx⟩
    | _ => exact h0.elim⟩
/-- o[i] = d -/
def oSet (o i d : D) (S : Sto) (R : Sto → Prop) : Prop := match o, i with
  | .ref p, .int k => match S p with
    | some (.lst ds) => match ixN ds.length k with
      | some j => R (sput S p (.lst (ds.set j d)))
      | none => False
    | none => False
  | _, _ => False
theorem oSet_of {o i d : D} {S : Sto} {R : Sto → Prop} (h : oSet o i d S R) : ∃ p k ds j, o = .ref p ∧ i = .int k ∧ S p = some (.lst ds) ∧ ixN ds.length k = some j ∧ R (sput S p (.lst (ds.set j d))) := by
  cases o with
  | ref p =>
    cases i with
    | int k =>
      cases e : S p with
      | none => simp only [oSet, e] at h
      | some z =>
        cases z with
        | lst ds =>
          cases e2 : ixN ds.length k with
          | none => simp only [oSet, e, e2] at h
          | some j => simp only [oSet, e, e2] at h; exact ⟨p, k, ds, j, rfl, rfl, e, e2, h⟩
    | _ => exact h.elim
  | _ => exact h.elim
def gSubD (wo wi : WE) : WG := fun d env S R X => wo env S (fun o S1 => wi env S1 (fun i S2 => oSet o i d S2 (fun S3 => R env S3)) X) X
theorem ig_sub (ho : IE X W o wo) (hi : IE X W i wi) (ha : ∀ v, assign (.Subscript o i pos) X.env v = (do
      let ov ← holding [v] (eval o X.env)
      let iv ← holding [v, ov] (eval i X.env)
      standAt pos
      holding [v, ov, iv] (setItem ov iv v)
      release [v, ov, iv] [])) : IG X W l (.Subscript o i pos) (gSubD wo wi) :=
  (pg_sub ho hi set_list ha).of fun v σ H Q ⟨d, env, S, R, x, r, re, rs, h, hq, hx⟩ =>
    ⟨env, S, _, x, re, rs, h, fun d1 S1 v1 H1 p1 e1 r1 s1 => ⟨env, S1, _, x, re.ext e1, s1, p1, fun d2 S2 v2 H2 p2 e2 r2 s2 => by
      obtain ⟨p, k, ds, j, rfl, rfl, eS, ej, q⟩ := oSet_of p2
      cases r1; cases r2
      obtain ⟨vs, eH, rl⟩ := s2 p _ eS
      exact ⟨p, vs, k, j, rfl, rfl, eH, by rw [rl.length]; exact ej, hq _ _ _ _ q ((e1.trans e2).trans (Ext.put eH)) (re.ext ((e1.trans e2).trans (Ext.put eH))) (s2.putL eH (rl.set j (r.ext (e1.trans e2)))) (But.refl _ _)⟩, (hx σ (But.refl _ _)).ext e1⟩, hx σ (But.refl _ _)⟩
/-! assignments -/
def sAsg (w : WE) (g : WG) : WS := fun P X env S => w env S (fun d S' => g d env S' P.nx (fun x S2 => ∀ env', X x env' S2)) (fun x S' => X x env S')
/-- targets that let nothing out -/
def sSet (w : WE) (g : WG) : WS := fun P X env S => w env S (fun d S' => g d env S' P.nx (fun _ _ => False)) (fun x S' => X x env S')
theorem is_set {t : Expr} {w : WE} (he : IE X W e w) (hg : IG X W l t g) (hs : swapsWithSole [t] e pos.line X.env = pure false) (hw : swappedStores [t] e X.env = pure none) (h1 : (assignEach [t] X.env).map (·.2) = [assign t X.env]) : IS X W (.Assign [t] e pos) (sSet w g) :=
  (ps_asg he hg hs hw h1).of fun D σ H ⟨env, S, P, x, re, rs, h, hq, hx⟩ =>
    ⟨env, S, _, _, re, rs, h, fun d S' v H' p e1 r1 s1 => ⟨d, env, S', P.nx, _, r1, re.ext e1, s1, p, fun env2 S2 σ2 H2 p2 e2 r2 s2 _ => hq.nx _ _ _ _ p2 (e1.trans e2) r2 s2, fun _ _ _ _ _ _ _ z => z.elim⟩, hx.at re⟩
/-- a, b = x, y -/
def sPar2 (i j : Nat) (w : WA) : WS := fun P X env S => w env S (fun ds S' => match ds with
  | [d, e] => P.nx ((env.set i (some d)).set j (some e)) S'
  | _ => False) (fun x S' => X x env S')
theorem is_par2 {i j : Nat} {x y : Str} {a b : Expr} {w : WA} {px py pt : Pos} {kt k2 pt2} (hc : X.calm = true) (hN : X.N.Nodup) (hi : X.N[i]? = some x) (hj : X.N[j]? = some y) (hij : i ≠ j)
    (hx : X.env.scope.names.lookup x = some .local) (hy : X.env.scope.names.lookup y = some .local) (ha : IA X W [a, b] w)
    (hw : swappedStores [.Tuple [.Name x px, .Name y py] kt pt] (.Tuple [a, b] k2 pt2) X.env = pure (some [x, y])) (hs : swapsWithSole [.Tuple [.Name x px, .Name y py] kt pt] (.Tuple [a, b] k2 pt2) pos.line X.env = pure false) :
    IS X W (.Assign [.Tuple [.Name x px, .Name y py] kt pt] (.Tuple [a, b] k2 pt2) pos) (sPar2 i j w) :=
  (ps_par hc hN hi hj hij hx hy ha hw hs).of fun D σ H ⟨env, S, P, x, re, rs, h, hq, hx⟩ =>
    ⟨env, S, _, _, re, rs, h, fun ds S' vs H' p _ e1 r1 s1 => by
      match ds, p with
      | [d, e], p =>
        obtain ⟨v, u, rfl, q1, q2⟩ := rl2 r1
        exact ⟨v, u, rfl, hq.nx _ _ _ _ p e1 (((re.ext e1).set q1).set q2) s1⟩, hx.at re⟩
def sPar3 (i j k : Nat) (w : WA) : WS := fun P X env S => w env S (fun ds S' => match ds with
  | [d, e, f] => P.nx (((env.set i (some d)).set j (some e)).set k (some f)) S'
  | _ => False) (fun x S' => X x env S')
theorem is_par3 {i j k : Nat} {x y z : Str} {a b c : Expr} {w : WA} {px py pz pt : Pos} {kt k2 pt2} (hc : X.calm = true) (hN : X.N.Nodup) (hi : X.N[i]? = some x) (hj : X.N[j]? = some y) (hk : X.N[k]? = some z) (hij : i ≠ j) (hik : i ≠ k) (hjk : j ≠ k)
    (hx : X.env.scope.names.lookup x = some .local) (hy : X.env.scope.names.lookup y = some .local) (hz : X.env.scope.names.lookup z = some .local) (ha : IA X W [a, b, c] w)
    (hw : swappedStores [.Tuple [.Name x px, .Name y py, .Name z pz] kt pt] (.Tuple [a, b, c] k2 pt2) X.env = pure (some [x, y, z])) (hs : swapsWithSole [.Tuple [.Name x px, .Name y py, .Name z pz] kt pt] (.Tuple [a, b, c] k2 pt2) pos.line X.env = pure false) :
    IS X W (.Assign [.Tuple [.Name x px, .Name y py, .Name z pz] kt pt] (.Tuple [a, b, c] k2 pt2) pos) (sPar3 i j k w) :=
  (ps_par3 hc hN hi hj hk hij hik hjk hx hy hz ha hw hs).of fun D σ H ⟨env, S, P, x, re, rs, h, hq, hx⟩ =>
    ⟨env, S, _, _, re, rs, h, fun ds S' vs H' p _ e1 r1 s1 => by
      match ds, p with
      | [d, e, f], p =>
        cases r1 with
        | cons q0 t =>
          obtain ⟨v, u, rfl, q1, q2⟩ := rl2 t
          exact ⟨_, v, u, rfl, hq.nx _ _ _ _ p e1 ((((re.ext e1).set q0).set q1).set q2) s1⟩, hx.at re⟩
end
end PL
namespace PL
open PySem PySem.Spec L2
/-! ### what is walked: the items, as data -/
abbrev WI := Env → Sto → (List D → Sto → Prop) → PX → Prop
/-- the iterator hands out ds, as long as G stands -/
structure Walks (K : PySem.W.Frag) (J : It) (ds : List D) (G : Hp → Prop) : Prop where
  stay : ∀ H H', G H → Ext H H' → G H'
  go : ∀ (i : Nat) H, G H → i < ds.length → J.go i H
  yld : ∀ (i : Nat) H x H' d, G H → ds[i]? = some d → J.yld i H x H' → Ext H H' ∧ Rep K H' x d ∧ (∀ S, RepS K H S → RepS K H' S) ∧ (∀ a xs, H a = some (.lst xs) → H' a = some (.lst xs))
  stop : ∀ (i : Nat) H, G H → ds.length ≤ i → J.stop i H
def tI (K : PySem.W.Frag) (mg : Str → Option Value) (W : WX) (w : WI) : TI := fun σ H R => ∃ env S P X, RepE K H σ env ∧ RepS K H S ∧ w env S P X ∧ okX K mg W H σ X ∧
  ∀ ds S' J H' G, P ds S' → Ext H H' → RepS K H' S' → G H' → Walks K J ds G → R J H'
abbrev II (X : Cx) (W : WX) (tg e : Expr) (w : WI) : Prop := PI X tg e (tI X.K X.mg W w)
theorem _root_.L2.PI.of {X : Cx} {tg e : Expr} {t u : TI} (h : PI X tg e t) (i : ∀ σ H Q, u σ H Q → t σ H Q) : PI X tg e u := ⟨fun pins s σ H R I q => h.run pins s σ H R I (i σ H R q)⟩
section
variable {X : Cx} {W : WX} {tg a b e : Expr} {wa : WE} {was : WA} {pos p : Pos}
/-- a list or a tuple that stays -/
def wItems (wa : WE) : WI := fun env S P X => wa env S (fun d S' => match d with
  | .tup ds => P ds S'
  | .lst ds => P ds S'
  | _ => False) X
theorem walks_tup {K : PySem.W.Frag} {p : Addr} {vs : List V} {ds : List D} : Walks K (Itt K p) ds (fun H => SqT K H p vs ∧ RepL K H vs ds) where
  stay := fun H H' ⟨h, r⟩ e => ⟨e.sqt h, r.ext e⟩
  go := fun i H ⟨h, r⟩ hi => by
    have hv : i < vs.length := by rw [r.length]; exact hi
    exact ⟨vs, vs[i], h, List.getElem?_eq_getElem hv⟩
  yld := fun i H x H' d ⟨h, r⟩ ed ⟨e, f⟩ => by
    subst e
    obtain ⟨v, ev, rv⟩ := r.get ed
    have := f vs h
    rw [ev] at this
    cases this
    exact ⟨Ext.refl _, rv, fun _ z => z, fun _ _ z => z⟩
  stop := fun i H ⟨h, r⟩ hi => ⟨vs, h, by rw [r.length]; exact hi⟩
theorem walks_lst {K : PySem.W.Frag} {p : Addr} {vs : List V} {ds : List D} : Walks K (Itl K p) ds (fun H => FzL K H p vs ∧ RepL K H vs ds) where
  stay := fun H H' ⟨h, r⟩ e => ⟨e.fzl h, r.ext e⟩
  go := fun i H ⟨h, r⟩ hi => by
    have hv : i < vs.length := by rw [r.length]; exact hi
    exact ⟨vs, vs[i], h.sql, List.getElem?_eq_getElem hv⟩
  yld := fun i H x H' d ⟨h, r⟩ ed ⟨e, f⟩ => by
    subst e
    obtain ⟨v, ev, rv⟩ := r.get ed
    have := f vs h.sql
    rw [ev] at this
    cases this
    exact ⟨Ext.refl _, rv, fun _ z => z, fun _ _ z => z⟩
  stop := fun i H ⟨h, r⟩ hi => ⟨vs, h.sql, by rw [r.length]; exact hi⟩
theorem iter_lst {pins : List (Addr × Obj)} {σ : St} {H : Hp} {s : Shared} {a : Addr} {xs : List V} {R : It → Hp → Prop} (I : L2.Inv X pins σ H s) (h : SqL X.K H a xs) (q : R (Itl X.K a) H) : wpAny (model X.prog X.w) X.A (pyIter (.ref a)) (PIE X pins σ tg R) X.xe s := by
  obtain ⟨its, rv, pl, hz⟩ := I.list h
  refine wpAny_pyIter_list pl.isList ⟨s.heap.objs.size, [s.heap.objs.size], _, _, H, rfl, I.kept (t' := s.toks) fun b o e => Heap.get?_push_of_some _ e, turn_list a _, ⟨_, Heap.get?_push_size _ rfl, rfl, rfl⟩, fun b hb => ?_, q⟩
  rw [List.mem_singleton.mp hb]
  exact I.fpOk (Nat.le_refl _) (I.hok.fresh (Nat.le_refl _))
theorem iter_tup {pins : List (Addr × Obj)} {σ : St} {H : Hp} {s : Shared} {a : Addr} {xs : List V} {R : It → Hp → Prop} (I : L2.Inv X pins σ H s) (h : SqT X.K H a xs) (q : R (Itt X.K a) H) : wpAny (model X.prog X.w) X.A (pyIter (.ref a)) (PIE X pins σ tg R) X.xe s := by
  obtain ⟨its, rv, pl, hz⟩ := I.tuple h
  refine wpAny_pyIter_tuple (show s.heap.IsTuple a its.toArray from pl) ⟨s.heap.objs.size, [s.heap.objs.size], _, _, H, rfl, I.kept (t' := s.toks) fun b o e => Heap.get?_push_of_some _ e, turn_tuple a _, ⟨_, Heap.get?_push_size _ rfl, rfl, rfl⟩, fun b hb => ?_, q⟩
  rw [List.mem_singleton.mp hb]
  exact I.fpOk (Nat.le_refl _) (I.hok.fresh (Nat.le_refl _))
theorem ii_items (ha : IE X W a wa) : II X W tg a (wItems wa) := by
  refine ⟨fun pins s σ H R I ⟨env, S, P, x, re, rs, h, hx, hq⟩ => ?_⟩
  refine thn (ha.run pins s σ H (fun v H' => ∃ d S', Ext H H' ∧ Rep X.K H' v d ∧ RepS X.K H' S' ∧ (match d with
    | .tup ds => P ds S'
    | .lst ds => P ds S'
    | _ => False)) I ⟨env, S, _, x, re, rs, h, fun d S' v H' p e r s => ⟨d, S', e, r, s, p⟩, hx⟩) fun u s1 ⟨v, H1, I1, rv, d, S', e1, r1, s1', p⟩ => ?_
  cases r1 with
  | tup h1 t1 =>
    have eu : u = .ref _ := rv
    subst eu
    exact iter_tup I1 h1 (hq _ S' _ H1 _ p e1 s1' ⟨h1, t1⟩ walks_tup)
  | lst h1 t1 =>
    have eu : u = .ref _ := rv
    subst eu
    exact iter_lst I1 h1.sql (hq _ S' _ H1 _ p e1 s1' ⟨h1, t1⟩ walks_lst)
  | _ => exact p.elim
/-- lo, lo + 1, .. -/
def intsD (lo : Int) (n : Nat) : List D := (List.range n).map fun (i : Nat) => D.int (lo + i)
theorem walks_rng {K : PySem.W.Frag} {lo : Int} {n : Nat} : Walks K (Itr lo n) (intsD lo n) (fun _ => True) where
  stay := fun _ _ _ _ => trivial
  go := fun i H _ hi => by
    unfold intsD at hi
    rw [List.length_map, List.length_range] at hi
    exact hi
  yld := fun i H x H' d _ ed ⟨e, f⟩ => by
    subst e; subst f
    unfold intsD at ed
    rw [List.getElem?_map] at ed
    cases er : (List.range n)[i]? with
    | none => rw [er] at ed; cases ed
    | some k =>
      rw [er] at ed
      have hk : k = i := by
        obtain ⟨hl, e2⟩ := List.getElem?_eq_some_iff.mp er
        rw [List.getElem_range] at e2
        exact e2.symm
      cases ed
      subst hk
      exact ⟨Ext.refl _, .int _, fun _ z => z, fun _ _ z => z⟩
  stop := fun i H _ hi => by
    unfold intsD at hi
    rw [List.length_map, List.length_range] at hi
    exact hi
def wRange1 (was : WA) : WI := fun env S P X => was env S (fun ds S' => match ds with
  | [.int j] => (-(2 ^ 62) ≤ j ∧ j < 2 ^ 62) ∧ P (intsD 0 j.toNat) S'
  | _ => False) X
def wRange2 (was : WA) : WI := fun env S P X => was env S (fun ds S' => match ds with
  | [.int i, .int j] => (-(2 ^ 62) ≤ i ∧ i < 2 ^ 62 ∧ -(2 ^ 62) ≤ j ∧ j < 2 ^ 62) ∧ P (intsD i (j - i).toNat) S'
  | _ => False) X
theorem ii_range1 (hg : Gl X "range") (hm : X.mg "range" = none) (ha : IA X W [a] was) (hs : starEach [a] X.env = [(false, eval a X.env)]) : II X W tg (.Call (.Name "range" p) [a] [] pos) (wRange1 was) :=
  (pi_range1 hg hm ha hs).of fun σ H R ⟨env, S, P, x, re, rs, h, hx, hq⟩ => ⟨env, S, _, x, re, rs, h, fun ds S' vs H' q _ e r s => by
    match ds, q with
    | [.int j], q =>
      obtain ⟨v, rfl, r1⟩ := rl1 r
      cases r1
      exact ⟨j, rfl, q.1.1, q.1.2, hq _ S' _ H' _ q.2 e s trivial walks_rng⟩, hx⟩
theorem ii_range2 (hg : Gl X "range") (hm : X.mg "range" = none) (ha : IA X W [a, b] was) (hs : starEach [a, b] X.env = [(false, eval a X.env), (false, eval b X.env)]) (hs2 : starEach [b] X.env = [(false, eval b X.env)]) : II X W tg (.Call (.Name "range" p) [a, b] [] pos) (wRange2 was) :=
  (pi_range2 hg hm ha hs hs2).of fun σ H R ⟨env, S, P, x, re, rs, h, hx, hq⟩ => ⟨env, S, _, x, re, rs, h, fun ds S' vs H' q _ e r s => by
    match ds, q with
    | [.int i, .int j], q =>
      obtain ⟨v, u, rfl, r1, r2⟩ := rl2 r
      cases r1; cases r2
      exact ⟨i, j, rfl, q.1, hq _ S' _ H' _ q.2 e s trivial walks_rng⟩, hx⟩
end
/-! ### for, while -/
def loopD (g : WG) (body : WS) (P : EndD) (X : XS) : List D → Env → Sto → Prop
  | [], env, S => P.nx env S
  | d :: ds, env, S => g d env S (fun e s => body { nx := loopD g body P X ds, ct := loopD g body P X ds, bk := P.nx, rt := P.rt } X e s) (fun _ _ => False)
def sFor (wi : WI) (g : WG) (body : WS) : WS := fun P X env S => wi env S (fun ds S' => loopD g body P X ds env S') (fun x S' => X x env S')
def whileD (c : WB) (body : WS) (P : EndD) (X : XS) : Nat → Env → Sto → Prop
  | 0, _, _ => False
  | n + 1, env, S => c env S (fun k S' => if k = true then body { nx := whileD c body P X n, ct := whileD c body P X n, bk := P.nx, rt := P.rt } X env S' else P.nx env S') (fun x S' => X x env S')
def sWhile (c : WB) (body : WS) : WS := fun P X env S => ∃ n, whileD c body P X n env S
section
variable {X : Cx} {W : WX} {l : List Nat} {tg c iter : Expr} {body : List Stmt} {wi : WI} {g : WG} {u : WS} {wc : WB} {pos : Pos}
theorem is_for (hp : PassesOwn (model X.prog X.w) X.A X.env X.xe) (hc : X.calm = true) (hi : II X W tg iter wi) (hg : IG X W l tg g) (hb : ISs X W body u) (hs : ∀ x, foldedSetIterable iter X.env x = pure x) : IS X W (.For tg iter body [] pos) (sFor wi g u) :=
  (ps_for hp hc hi hg hb hs).of fun D σ H ⟨env, S, P, x, re, rs, h, hq, hx⟩ => ⟨env, S, _, _, re, rs, h, hx.at re, fun ds S' J H' G q e s hG wk => by
    refine ⟨fun i m σ1 H1 => i + m = ds.length ∧ ∃ env1 S1, Ext H H1 ∧ RepE X.K H1 σ1 env1 ∧ RepS X.K H1 S1 ∧ G H1 ∧ loopD g u P x (ds.drop i) env1 S1, ⟨ds.length, by omega, env, S', e, re.ext e, s, hG, q⟩, fun i m σ1 H1 ⟨hm, env1, S1, e1, r1, s1, hG1, q1⟩ => ?_⟩
    by_cases hl : i < ds.length
    · have ed : ds.drop i = ds[i] :: ds.drop (i + 1) := List.drop_eq_getElem_cons hl
      rw [ed] at q1
      refine .inr ⟨wk.go i H1 hG1 hl, fun σ2 H2 => i + 1 + (m - 1) = ds.length ∧ ∃ env2 S2, Ext H H2 ∧ RepE X.K H2 σ2 env2 ∧ RepS X.K H2 S2 ∧ G H2 ∧ loopD g u P x (ds.drop (i + 1)) env2 S2, fun σ2 H2 h2 => ⟨m - 1, by omega, h2⟩, fun v H2 hy => ?_⟩
      obtain ⟨e2, r2, k2, _⟩ := wk.yld i H1 v H2 ds[i] hG1 (List.getElem?_eq_getElem hl) hy
      refine ⟨ds[i], env1, S1, _, _, r2, r1.ext e2, k2 S1 s1, q1, fun env3 S3 σ3 H3 p3 e3 r3 s3 _ => ?_, fun _ _ _ _ _ _ _ z => z.elim⟩
      refine ⟨env3, S3, _, x, r3, s3, p3, ⟨fun env4 S4 σ4 H4 p4 e4 r4 s4 => ?_, hq.rt.ext ((e1.trans e2).trans e3), hq.nx.ext ((e1.trans e2).trans e3), fun env4 S4 σ4 H4 p4 e4 r4 s4 => ?_⟩, hx.ext ((e1.trans e2).trans e3)⟩
      · exact ⟨by omega, env4, S4, ((e1.trans e2).trans e3).trans e4, r4, s4, wk.stay _ _ hG1 ((e2.trans e3).trans e4), p4⟩
      · exact ⟨by omega, env4, S4, ((e1.trans e2).trans e3).trans e4, r4, s4, wk.stay _ _ hG1 ((e2.trans e3).trans e4), p4⟩
    · have ed : ds.drop i = [] := List.drop_eq_nil_of_le (by omega)
      rw [ed] at q1
      exact .inl ⟨wk.stop i H1 hG1 (by omega), hq.nx env1 S1 σ1 H1 q1 e1 r1 s1⟩⟩
theorem is_while (hp : PassesOwn (model X.prog X.w) X.A X.env X.xe) (hc : IT X W c wc) (hb : ISs X W body u) : IS X W (.While c body [] pos) (sWhile wc u) :=
  (ps_while hp hc hb).of fun D σ H ⟨env, S, P, x, re, rs, ⟨n, h⟩, hq, hx⟩ => by
    refine ⟨fun m σ1 H1 => ∃ env1 S1, Ext H H1 ∧ RepE X.K H1 σ1 env1 ∧ RepS X.K H1 S1 ∧ whileD wc u P x m env1 S1, ⟨n, env, S, Ext.refl H, re, rs, h⟩, fun m σ1 H1 ⟨env1, S1, e1, r1, s1, q1⟩ => ?_⟩
    cases m with
    | zero => exact q1.elim
    | succ m =>
      refine ⟨env1, S1, _, _, r1, s1, q1, fun k S2 H2 p2 e2 s2 => ?_, (hx.ext e1).at r1⟩
      cases k with
      | true =>
        refine ⟨fun σ3 H3 => ∃ env3 S3, Ext H H3 ∧ RepE X.K H3 σ3 env3 ∧ RepS X.K H3 S3 ∧ whileD wc u P x m env3 S3, fun σ3 H3 h3 => ⟨m, Nat.lt_succ_self m, h3⟩, env1, S2, _, x, r1.ext e2, s2, p2, ⟨fun env4 S4 σ4 H4 p4 e4 r4 s4 => ⟨env4, S4, (e1.trans e2).trans e4, r4, s4, p4⟩, hq.rt.ext (e1.trans e2), hq.nx.ext (e1.trans e2), fun env4 S4 σ4 H4 p4 e4 r4 s4 => ⟨env4, S4, (e1.trans e2).trans e4, r4, s4, p4⟩⟩, hx.ext (e1.trans e2)⟩
      | false => exact hq.nx env1 S2 σ1 H2 p2 (e1.trans e2) (r1.ext e2) s2
end
end PL
namespace PL
open PySem PySem.Spec L2
/-! ### defs: what they do, by data -/
abbrev Con := List D → Sto → PD → PX → Prop
def spI (K : PySem.W.Frag) (mg : Str → Option Value) (c : Con) : Sp := fun vs H Q E => ∃ ds S P X, RepL K H vs ds ∧ RepS K H S ∧ c ds S P X ∧ okE K H P Q ∧
  ∀ x S' cls dd H', X x S' → Ext H H' → RepX K mg H' cls dd x → RepS K H' S' → E cls dd H'
structure RoomG (k : Nat) (A : Around) : Prop where
  room : Room k A
  gd : A.guards = some []
theorem RoomG.mono {j k : Nat} {A : Around} (r : RoomG k A) (h : j ≤ k) : RoomG j A := ⟨r.room.mono h, r.gd⟩

/-- a def holds c: called with such arguments it ends as c says -/
def FnG (P : Program) (w : World) (K : PySem.W.Frag) (mg : Str → Option Value) (base : Heap) (k : Nat) (f : Addr) (fd : FuncData) (ps : List Str) (c : Con) : Prop :=
  ∀ (A : Around) (outer : List PySem.Env) (s : Shared) (H : Hp) (args : Args) (us : List Value) (vs : List V) (Q : VK) (E : XK), RoomG k A → Env0 P w K mg base A outer s H → BindsTo s fd args (ps.zip us) → Vals vs us → vs.length = ps.length → spI K mg c vs H Q E →
    codeAny (model P w) A (.call (.ref f) args) (CR (L2.CX P w) outer P w H s Q E) s
/-- the items of ws at these places -/
def pick {α : Type} (ix : List Nat) (ws : List α) : List α := ix.filterMap fun i => ws[i]?
theorem pick_rep {K : PySem.W.Frag} {H : Hp} {vs : List V} {ds : List D} (r : RepL K H vs ds) : ∀ ix : List Nat, RepL K H (pick ix vs) (pick ix ds)
  | [] => .nil
  | i :: ix => by
    have t := pick_rep r ix
    unfold pick at t ⊢
    rw [List.filterMap_cons, List.filterMap_cons]
    cases e : ds[i]? with
    | none =>
      have : vs[i]? = none := List.getElem?_eq_none_iff.mpr (by rw [r.length]; exact List.getElem?_eq_none_iff.mp e)
      rw [this]
      exact t
    | some d =>
      obtain ⟨v, ev, rv⟩ := r.get e
      rw [ev]
      exact .cons rv t
theorem pick_vals {vs : List V} {us : List Value} (r : Vals vs us) : ∀ ix : List Nat, Vals (pick ix vs) (pick ix us)
  | [] => .nil
  | i :: ix => by
    have t := pick_vals r ix
    unfold pick at t ⊢
    rw [List.filterMap_cons, List.filterMap_cons]
    cases e : vs[i]? with
    | none =>
      rw [r.none_of e]
      exact t
    | some v =>
      obtain ⟨u, ev, rv⟩ := r.get e
      rw [ev]
      exact .cons rv t
/-- how a call with n positional values and these keywords binds -/
def ixOf (ps : List Str) (n : Nat) (ks : List Str) : List Nat := (ps.drop n).map fun p => ks.idxOf p
def BindsK (fd : FuncData) (ps : List Str) (n : Nat) (ks : List Str) : Prop :=
  ∀ us ws : List Value, us.length = n → ws.length = ks.length → bindArgs fd ⟨us, ks.zip ws⟩ = pure (ps.zip (us ++ pick (ixOf ps n ks) ws)) ∧ (us ++ pick (ixOf ps n ks) ws).length = ps.length
structure FE where
  name : Str
  ps : List Str
  con : Con
  pats : List (Nat × List Str)
/-- the entry's def stands, and holds its contract -/
def FnIn (X : Cx) (k : Nat) (e : FE) : Prop := ∃ f fd, X.mg e.name = some (.ref f) ∧ PySem.W.keepIn X.K (.ref f) = true ∧ FnG X.prog X.w X.K X.mg X.base k f fd e.ps e.con ∧ ∀ q ∈ e.pats, BindsK fd e.ps q.1 q.2
section
variable {X : Cx} {W : WX} {pins : List (Addr × Obj)} {σ : St} {H : Hp} {s : Shared} {k : Nat} {fe : FE} {p pos : Pos} {e : Expr} {es : List Expr} {kws : List Keyword} {n : Nat} {ks : List Str} {was wks : WA}
theorem run_fn {f : Addr} {fd : FuncData} {c : Con} {ps : List Str} {Q : VK} {E : XK} {args : Args} {us : List Value} {vs : List V} (F : FnG X.prog X.w X.K X.mg X.base k f fd ps c) (hr : RoomG k X.A) (hx : PassesAt (L2.CX X.prog X.w) X σ E) (I : L2.Inv X pins σ H s)
    (hb : BindsTo s fd args (ps.zip us)) (r : Vals vs us) (hl : vs.length = ps.length) (h : spI X.K X.mg c vs H Q E) : wpAny (model X.prog X.w) X.A (call (.ref f) args.pos args.kw) (EP X pins σ Q) X.xe s := by
  refine wpAny_call (codeAny_mono (F X.A X.stack s H args us vs Q E hr I.env0 hb r hl h) fun r s' hq => ?_)
  cases r with
  | error e => exact hx pins H s e s' I hq
  | ok fl =>
    cases fl with
    | ret u => exact I.after hq
    | next => exact False.elim hq
    | brk => exact False.elim hq
    | cont => exact False.elim hq
/-- keywords' values -/
abbrev IK (X : Cx) (W : WX) (kws : List Keyword) (w : WA) : Prop := PK X kws (tA X.K X.mg W kws.length w)
theorem ik_nil : IK X W [] wNil := ⟨fun pos pins s σ H Q I ⟨env, S, P, x, re, rs, h, hq, _⟩ => pk_nil.run pos pins s σ H Q I (hq [] S [] H h rfl (Ext.refl H) .nil rs)⟩
theorem ik_cons {w : WE} {nm : Option Str} {kpos : Pos} (ha : IE X W e w) (hr : IK X W kws wks) : IK X W (⟨nm, e, kpos⟩ :: kws) (wCons w wks) :=
  ⟨fun pos pins s σ H Q I ⟨env, S, P, x, re, rs, h, hq, hx⟩ => (pk_cons ha hr).run pos pins s σ H Q I ⟨env, S, _, x, re, rs, h, fun d S1 v1 H1 p e1 r1 s1 =>
    ⟨env, S1, _, x, re.ext e1, s1, p, fun ds S2 vs H2 p2 l2 e2 r2 s2 => hq _ S2 _ H2 p2 (by rw [List.length_cons, l2]; rfl) (e1.trans e2) (.cons (r1.ext e2) r2) s2, hx.ext e1⟩, hx⟩⟩
def wCall (c : Con) (ix : List Nat) (was wks : WA) : WE := fun env S P X => was env S (fun ds S1 => wks env S1 (fun es S2 => c (ds ++ pick ix es) S2 P X) X) X
theorem call_end {P : PD} {x : PX} {Q : VK} {ds es : List D} {S2 : Sto} {us ws : List Value} {vs zs : List V} {f : Addr} {fd : FuncData} (tk : Takes X W) (hr : RoomG k X.A) (FG : FnG X.prog X.w X.K X.mg X.base k f fd fe.ps fe.con) (bs : BindsK fd fe.ps n ks)
    (I : L2.Inv X pins σ H s) (r1 : Vals vs us) (rz : Vals zs ws) (rd : RepL X.K H vs ds) (rz2 : RepL X.K H zs es) (rs : RepS X.K H S2) (hn : us.length = n) (hk : ws.length = ks.length) (h : fe.con (ds ++ pick (ixOf fe.ps n ks) es) S2 P x) (hq : okE X.K H P Q) (hx : okX X.K X.mg W H σ x) :
    wpAny (model X.prog X.w) X.A (call (.ref f) us (ks.zip ws)) (EP X pins σ Q) X.xe s := by
  obtain ⟨b1, b2⟩ := bs us ws hn hk
  have rv := r1.append (pick_vals rz (ixOf fe.ps n ks))
  exact run_fn (args := ⟨us, ks.zip ws⟩) FG hr (passAt tk σ) I (.of_eq b1) rv (by rw [rv.length]; exact b2) ⟨_, S2, P, x, rd.append (pick_rep rz2 _), rs, h, hq, fun y S' c d H' a b r t => hx y S' c d H' a b r t⟩
theorem ie_call (F : FnIn X k fe) (hp : (n, ks) ∈ fe.pats) (tk : Takes X W) (hr : RoomG k X.A) (hg : Gl X fe.name) (hdb : (fe.name == ("__debug__" : Str)) = false) (ha : IA X W (e :: es) was) (hkw : IK X W kws wks) (hn : (e :: es).length = n) (hk : kws.length = ks.length)
    (hall : (backToKw pos (keywordEach kws X.env)).all (·.1.isSome) = true) (hks : (backToKw pos (keywordEach kws X.env)).filterMap (·.1) = ks)
    (he : starEach (e :: es) X.env = (false, eval e X.env) :: starEach es X.env) (hpl : ((backTo pos (starEach (e :: es) X.env)).any (·.1) || (backToKw pos (keywordEach kws X.env)).any (·.1.isNone)) = false) :
    IE X W (.Call (.Name fe.name p) (e :: es) kws pos) (wCall fe.con (ixOf fe.ps n ks) was wks) := by
  obtain ⟨f, fd, hm, hkp, FG, bs⟩ := F
  refine ⟨fun pins s σ H Q I ⟨env, S, P, x, re, rs, h, hq, hx⟩ => ?_⟩
  refine wpAny_Call_Name_kw (ld_glob I hg hm ?_ hdb)
  refine PySem.W.callWith_KW (h₀ := X.base) I.ok.mod.kin hkp hall (thn (ha.run pos pins s σ H (fun vs H1 => ∃ ds S1, vs.length = n ∧ Ext H H1 ∧ RepL X.K H1 vs ds ∧ RepS X.K H1 S1 ∧ wks env S1 (fun es S2 => fe.con (ds ++ pick (ixOf fe.ps n ks) es) S2 P x) x) I
    ⟨env, S, _, x, re, rs, h, fun ds S1 vs H1 q l e1 r1 s1 => ⟨ds, S1, by rw [r1.length, l]; exact hn, e1, r1, s1, q⟩, hx⟩) fun us s1 ⟨vs, H1, I1, rv, ds, S1, ln, e1, r1, s1', q⟩ => ?_) hpl he
  refine thn (hkw.run pos pins s1 σ H1 (fun zs H2 => ∃ es S2, zs.length = ks.length ∧ Ext H1 H2 ∧ RepL X.K H2 zs es ∧ RepS X.K H2 S2 ∧ fe.con (ds ++ pick (ixOf fe.ps n ks) es) S2 P x) I1 ⟨env, S1, _, x, re.ext e1, s1', q, fun es S2 zs H2 q l e2 r2 s2 => ⟨es, S2, by rw [r2.length, l]; exact hk, e2, r2, s2, q⟩, hx.ext e1⟩) fun ws s2 ⟨zs, H2, I2, rz, es', S2, lz, e2, r2, s2', q2⟩ => ⟨I2.kIn, ?_⟩
  rw [hks]
  show wpAny _ _ (call (.ref f) us (ks.zip ws)) _ _ _
  exact call_end tk hr FG (bs _ hp) I2 rv rz (r1.ext e2) r2 s2' (by rw [← rv.length]; exact ln) (by rw [← rz.length]; exact lz) q2 (hq.ext (e1.trans e2)) (hx.ext (e1.trans e2))
theorem ie_call0 (F : FnIn X k fe) (hp : (0, ks) ∈ fe.pats) (tk : Takes X W) (hr : RoomG k X.A) (hg : Gl X fe.name) (hdb : (fe.name == ("__debug__" : Str)) = false) (hkw : IK X W kws wks) (hk : kws.length = ks.length)
    (hall : (backToKw pos (keywordEach kws X.env)).all (·.1.isSome) = true) (hks : (backToKw pos (keywordEach kws X.env)).filterMap (·.1) = ks)
    (hpl : ((backTo pos (starEach [] X.env)).any (·.1) || (backToKw pos (keywordEach kws X.env)).any (·.1.isNone)) = false) :
    IE X W (.Call (.Name fe.name p) [] kws pos) (wCall fe.con (ixOf fe.ps 0 ks) wNil wks) := by
  obtain ⟨f, fd, hm, hkp, FG, bs⟩ := F
  refine ⟨fun pins s σ H Q I ⟨env, S, P, x, re, rs, h, hq, hx⟩ => ?_⟩
  refine wpAny_Call_Name_kw (ld_glob I hg hm ?_ hdb)
  refine PySem.W.callWith_KW0 (h₀ := X.base) I.ok.mod.kin hkp hall ?_ hpl
  refine thn (hkw.run pos pins s σ H (fun zs H2 => ∃ es S2, zs.length = ks.length ∧ Ext H H2 ∧ RepL X.K H2 zs es ∧ RepS X.K H2 S2 ∧ fe.con ([] ++ pick (ixOf fe.ps 0 ks) es) S2 P x) I ⟨env, S, _, x, re, rs, h, fun es S2 zs H2 q l e2 r2 s2 => ⟨es, S2, by rw [r2.length, l]; exact hk, e2, r2, s2, q⟩, hx⟩) fun ws s2 ⟨zs, H2, I2, rz, es', S2, lz, e2, r2, s2', q2⟩ => ⟨I2.kIn, ?_⟩
  rw [hks]
  show wpAny _ _ (call (.ref f) [] (ks.zip ws)) _ _ _
  exact call_end (us := []) (vs := []) tk hr FG (bs _ hp) I2 .nil rz .nil r2 s2' rfl (by rw [← rz.length]; exact lz) q2 (hq.ext e2) (hx.ext e2)
end
end PL
/-! t[::-1] of a tuple, at the library's level -/
namespace PL
open PySem PySem.Spec PyProof.Rows HT L2
section
variable {prog : Program} {w : World} {A : Around} {E : Value → Shared → Prop} {s : Shared}
theorem back_places (n : Nat) : Builtin.Slice.slicePlaces ((n : Int) - 1) (-1) (-1) = n := by
  unfold Builtin.Slice.slicePlaces
  have h1 : ¬ ((-1 : Int) > 0) := by omega
  simp only [h1, if_false]
  have h2 : (-(-1 : Int)) = 1 := rfl
  rw [h2, Int.ediv_one]
  split <;> omega
theorem back_pick (xs : List Value) : ((List.range xs.length).filterMap fun (m : Nat) => xs.toArray[((xs.length : Int) - 1 + (m : Int) * (-1)).toNat]?) = xs.reverse := by
  have h : ∀ k, k ≤ xs.length → ((List.range k).filterMap fun (m : Nat) => xs.toArray[((xs.length : Int) - 1 + (m : Int) * (-1)).toNat]?) = xs.reverse.take k := by
    intro k
    induction k with
    | zero => intro _; rfl
    | succ k ih =>
      intro hk
      rw [List.range_succ, List.filterMap_append, ih (by omega), List.take_succ]
      congr 1
      have e : ((xs.length : Int) - 1 + (k : Int) * (-1)).toNat = xs.length - 1 - k := by omega
      rw [List.getElem?_reverse (by omega)]
      simp only [List.filterMap_cons, List.filterMap_nil, e, List.getElem?_toArray]
      cases xs[xs.length - 1 - k]? <;> rfl
  have := h xs.length (Nat.le_refl _)
  rw [this, ← List.length_reverse, List.take_length]
theorem back_applied {sl : Addr} {t : Tok} {n : Nat} {Q : Int × Int × Nat → Shared → Prop} (hs : s.heap.IsSliceOf sl .none .none (.int (-1) t))
    (h : Q ((n : Int) - 1, -1, n) s) : wpAny (model prog w) A (Builtin.Slice.sliceApplied (.ref sl) (pure (n : Int))) Q E s := by
  obtain ⟨os, hos, hcs, hds⟩ := id hs
  unfold Builtin.Slice.sliceApplied Builtin.Slice.sliceFields
  refine wpAny_bind (wpAny_bind (wpAny_field hos hds (x := .none) rfl (wpAny_bind (wpAny_field hos hds (x := .none) rfl (wpAny_bind (wpAny_field hos hds (x := .int (-1) t) rfl (wpAny_pure ?_)))))))
  refine wpAny_bind (slicePart_int ?_)
  show wpAny _ _ (if ((-1 : Int) == 0) = true then _ else _) _ _ s
  rw [if_neg (by decide)]
  refine wpAny_bind (slicePart_none (wpAny_bind (slicePart_none (wpAny_bind (wpAny_pure ?_)))))
  show wpAny _ _ (pure ((n : Int) - 1, (-1 : Int), Builtin.Slice.slicePlaces ((n : Int) - 1) (-1) (-1))) _ _ s
  rw [back_places]
  exact wpAny_pure h
theorem back_tuple {t sl : Addr} {items : List Value} {u : Tok} {Q : Value → Shared → Prop} (ht : IsTup s.heap t items.toArray) (hs : s.heap.IsSliceOf sl .none .none (.int (-1) u))
    (h : Q (.ref s.heap.objs.size) { s with heap := s.heap.push { cls := .type "tuple", data := .seq items.reverse.toArray } }) (hsz : items.length ≤ sizeLine) :
    wpAny (model prog w) A (getItem (.ref t) (.ref sl)) Q E s := by
  have hk : sizeOk (.seq items.reverse.toArray) := by
    show items.reverse.toArray.size ≤ sizeLine
    rw [List.size_toArray, List.length_reverse]; exact hsz
  obtain ⟨os, hos, hcs, hds⟩ := id hs
  have hT : s.TypeIs (.ref sl) "slice" := ⟨os, hos, hcs⟩
  unfold getItem; try with_reducible refine wpAny_holding ?_
  first | refine wpAny_bind (wpAny_pure ?_) | skip
  refine wpAny_bind (wpAny_sequenceKey ht.typeIs (by decide) (wpAny_bind (wpAny_callSpecial?_slot (name := Str.ofString "__getitem__") ht.typeIs PyProof.Rows.slot_tuple_getitem (wpAny_call_entry PyProof.Rows.slot_tuple_getitem ht.typeIs entry_tuple_getitem ?_ (args_tuple_getitem _ _)))))
  show wpAny _ _ (Builtin.Tuple.tupleItemsOf (.ref t) >>= _) _ _ s
  refine wpAny_bind (tupleItemsOf_ ht (wpAny_bind (wpAny_typeOf hT ?_)))
  rw [if_pos (by decide)]
  refine wpAny_bind (back_applied (n := items.toArray.size) hs ?_)
  have hno : ¬ ((((items.toArray.size : Nat) : Int) - 1 == 0 && (-1 : Int) == 1 && items.toArray.size == items.toArray.size) = true) := by
    intro q; simp at q
  show wpAny _ _ (if ((((items.toArray.size : Nat) : Int) - 1 == 0 && (-1 : Int) == 1 && items.toArray.size == items.toArray.size) = true) then _ else _) _ _ s
  rw [if_neg hno]
  have e : ((List.range items.toArray.size).filterMap fun (m : Nat) => items.toArray[((items.toArray.size : Int) - 1 + (m : Int) * (-1)).toNat]?).toArray = items.reverse.toArray := by
    rw [List.size_toArray, back_pick]
  rw [e]
  first
    | exact wpAny_bind (m := Builtin.Tuple.tupleExact _) (wpAny_newObj_type (wpAny_pure ⟨_, rfl, wpAny_pure h⟩) hk)
    | exact wpAny_bind (m := Builtin.Tuple.tupleExact _) (wpAny_newObj_type (wpAny_bind (wpAny_pure (wpAny_pure ⟨_, rfl, wpAny_pure h⟩))) hk)
    | exact wpAny_bind (wpAny_bind (m := Builtin.Tuple.tupleExact _) (wpAny_newObj_type (wpAny_pure (wpAny_pure ⟨_, rfl, wpAny_pure h⟩)) hk))
    | exact wpAny_bind (wpAny_bind (m := Builtin.Tuple.tupleExact _) (wpAny_newObj_type (wpAny_pure ⟨_, rfl, wpAny_pure h⟩) hk))
end
section
variable {X : Cx}
/-- xs[::-1] of a tuple -/
def tBack (K : PySem.W.Frag) (te : TE) : TE := fun σ H Q => te σ H fun x H1 => ∃ a xs, x = .ref a ∧ SqT K H1 a xs ∧ ∀ p, H1 p = none → Q (.ref p) (upd H1 p (.tup xs.reverse))
/-- of a list or of a tuple: what is asked of either -/
def tBoth (K : PySem.W.Frag) (te : TE) : TE := fun σ H Q => te σ H fun x H1 => ∃ a xs, x = .ref a ∧
  ((SqL K H1 a xs ∧ ∀ p, H1 p = none → Q (.ref p) (upd H1 p (.lst xs.reverse))) ∨ (SqT K H1 a xs ∧ ∀ p, H1 p = none → Q (.ref p) (upd H1 p (.tup xs.reverse))))
theorem pe_back {e : Expr} {te : TE} {k : Nat} {p1 p2 p3 pos : Pos} (he : PE X e te) : PE X (.Subscript e (.Slice none none (some (.UnaryOp .USub (.Constant (.int 1) k p1) p2)) p3) pos) (tBoth X.K te) := by
  refine ⟨fun pins s σ H Q I h => ?_⟩
  refine Subscript_ (thn (he.run pins s σ H _ I h) fun v s1 ⟨x, H1, I1, r1, a, xs, ex, q1⟩ => ?_); subst ex; cases r1
  have hst : PO X (some (.UnaryOp .USub (.Constant (.int 1) k p1) p2)) (tPart (tUn (rU fun i => .int (-i)) (tC (.int 1)))) := po_some (pe_un un_neg pe_int)
  refine wpAny_Slice (thn (po_none.run pins s1 σ H1 (fun o H2 => o = none ∧ H2 = H1) I1 ⟨rfl, rfl⟩) fun vl s2 ⟨l, H2, I2, pl, el, e2⟩ => ?_); subst el e2
  refine thn (po_none.run pins s2 σ H2 (fun o H3 => o = none ∧ H3 = H2) I2 ⟨rfl, rfl⟩) fun vu s3 ⟨u, H3, I3, pu, eu, e3⟩ => ?_; subst eu e3
  refine thn (hst.run pins s3 σ H3 (fun o H4 => o = some (-1) ∧ H4 = H3) I3 ⟨1, rfl, -1, rfl, rfl, rfl⟩) fun vs s4 ⟨o, H4, I4, ps, eo, e4⟩ => ?_; subst eo e4
  have J : Inv X pins σ H4 { s4 with heap := s4.heap.push { cls := .type "slice", data := .fields #[vl, vu, vs] } } := I4.kept (t' := s4.toks) fun b ob q => Heap.get?_push_of_some _ q
  show wpAny (model X.prog X.w) X.A (subscriptTail e (.Slice none none (some (.UnaryOp .USub (.Constant (.int 1) k p1) p2)) p3) (.ref a) (.ref s4.heap.objs.size)) (EP X pins σ Q) X.xe { s4 with heap := s4.heap.push { cls := .type "slice", data := .fields #[vl, vu, vs] } }
  rcases q1 with ⟨hx, q⟩ | ⟨hx, q⟩
  · obtain ⟨its, r, ht, hz⟩ := J.list hx
    have hlen := r.length
    refine tail_any (ops := [.ref a, .ref s4.heap.objs.size]) ht.isList.typeIs (PySem.slot_list_getitem.lookup) ?_ (by with_unfolding_all rfl)
    refine wpAny_getItem_list_slice ht.isList (Heap.IsSliceOf.new _ vl vu vs) pl pu ps (by decide) ?_ (by rw [List.size_toArray]; omega)
    rw [PySem.W.krv_pick]
    exact ⟨.ref _, _, J.laid (t' := s4.toks) (o := .lst xs.reverse) (fun b ob q => Heap.get?_push_of_some _ q) (Nat.le_refl _) ⟨by rw [List.length_reverse]; exact hz, _, 0, r.reverse, Heap.get?_push_size _ rfl⟩, rfl, q _ (J.hok.fresh (Nat.le_refl _))⟩
  · obtain ⟨its, r, ht, hz⟩ := J.tuple hx
    have hlen := r.length
    refine tail_any (ops := [.ref a, .ref s4.heap.objs.size]) ht.typeIs (PyProof.Rows.slot_tuple_getitem.lookup) ?_ (by with_unfolding_all rfl)
    cases pl; cases pu; cases ps
    refine back_tuple (items := its) ht (Heap.IsSliceOf.new _ _ _ _) ?_ (by omega)
    exact ⟨.ref _, _, J.laid (t' := s4.toks) (o := .tup xs.reverse) (fun b ob q => Heap.get?_push_of_some _ q) (Nat.le_refl _) ⟨by rw [List.length_reverse]; exact hz, _, r.reverse, IsTup.new _ _⟩, rfl, q _ (J.hok.fresh (Nat.le_refl _))⟩
end
end PL
namespace PL
open PySem PySem.Spec L2
/-! ### slices -/
abbrev OSl := D → Option Int → Option Int → Sto → PD → Prop
def cutD (xs : List D) (lo hi : Option Int) : List D := (xs.drop (HT.sIx xs.length 0 lo)).take (HT.sIx xs.length xs.length hi - HT.sIx xs.length 0 lo)
def oSlice : OSl := fun x lo hi S P => match x with
  | .str z => z.length ≤ sizeLine ∧ P (.str (cutS z lo hi)) S
  | .tup ds => P (.tup (cutD ds lo hi)) S
  | _ => match seqOf S x with
    | some ds => P (.lst (cutD ds lo hi)) S
    | none => False
def wPart : Option WE → Env → Sto → (Option Int → Sto → Prop) → PX → Prop
  | none, _, S, k, _ => k none S
  | some w, env, S, k, X => w env S (fun d S' => match d with
    | .int i => k (some i) S'
    | _ => False) X
def wSlice (wx : WE) (lo hi : Option WE) : WE := fun env S P X => wx env S (fun x S1 => wPart lo env S1 (fun l S2 => wPart hi env S2 (fun h S3 => oSlice x l h S3 P) X) X) X
section
variable {X : Cx} {W : WX} {e o a : Expr} {es : List Expr} {lo hi : Option Expr} {wx wo : WE} {wl wh : Option WE} {was : WA} {pos p2 apos cpos : Pos}
def tO (K : PySem.W.Frag) (mg : Str → Option Value) (W : WX) (w : Option WE) : TO := fun σ H Q => ∃ env S P X, RepE K H σ env ∧ RepS K H S ∧ wPart w env S P X ∧ (∀ o S' H', P o S' → Ext H H' → RepS K H' S' → Q o H') ∧ okX K mg W H σ X
abbrev IO (X : Cx) (W : WX) (e : Option Expr) (w : Option WE) : Prop := PO X e (tO X.K X.mg W w)
theorem io_none : IO X W none none := ⟨fun pins s σ H Q I ⟨env, S, P, x, re, rs, h, hq, hx⟩ => po_none.run pins s σ H Q I (hq none S H h (Ext.refl H) rs)⟩
theorem io_some (h : IE X W e wx) : IO X W (some e) (some wx) := ⟨fun pins s σ H Q I ⟨env, S, P, x, re, rs, hw, hq, hx⟩ => (po_some h).run pins s σ H Q I ⟨env, S, _, x, re, rs, hw, fun d S' v H' p e1 r s1 => by
  cases d with
  | int i => cases r; exact ⟨i, rfl, hq _ S' H' p e1 s1⟩
  | _ => exact p.elim, hx⟩⟩
theorem cut_rep {K : PySem.W.Frag} {H : Hp} {vs : List V} {ds : List D} (r : RepL K H vs ds) (lo hi : Option Int) : RepL K H (cutV vs lo hi) (cutD ds lo hi) := by
  unfold cutV cutD
  rw [r.length]
  exact (r.drop _).take _
theorem oSlice_of {x : D} {lo hi : Option Int} {S : Sto} {P : PD} (h : oSlice x lo hi S P) : (∃ z, x = .str z ∧ z.length ≤ sizeLine ∧ P (.str (cutS z lo hi)) S) ∨
    (∃ ds, x = .tup ds ∧ P (.tup (cutD ds lo hi)) S) ∨ ∃ ds, (∀ es, x ≠ .tup es) ∧ seqOf S x = some ds ∧ P (.lst (cutD ds lo hi)) S := by
  cases x with
  | str z => exact .inl ⟨z, rfl, h⟩
  | tup ds => exact .inr (.inl ⟨ds, rfl, h⟩)
  | lst ds => exact .inr (.inr ⟨ds, (fun _ z => nomatch z), rfl, h⟩)
  | ref a =>
    cases e : seqOf S (.ref a) with
    | none => simp only [oSlice, e] at h
    | some ds => simp only [oSlice, e] at h; exact .inr (.inr ⟨ds, (fun _ z => nomatch z), rfl, h⟩)
  | non => exact h.elim
  | bl _ => exact h.elim
  | int _ => exact h.elim
theorem seqL_rep {K : PySem.W.Frag} {H : Hp} {S : Sto} {v : V} {d : D} {ds : List D} (r : Rep K H v d) (rs : RepS K H S) (h : seqOf S d = some ds) (n : ∀ es, d ≠ .tup es) : ∃ p vs, v = .ref p ∧ SqL K H p vs ∧ RepL K H vs ds := by
  cases r with
  | tup h' r' => exact absurd rfl (n _)
  | lst h' r' => cases h; exact ⟨_, _, rfl, h'.sql, r'⟩
  | ref a =>
    unfold seqOf at h
    cases e : S a with
    | none => simp [e] at h
    | some o =>
      cases o with
      | lst es =>
        simp [e] at h
        subst h
        obtain ⟨vs, q, t⟩ := rs a _ e
        exact ⟨_, _, rfl, .of q, t⟩
  | non => cases h
  | bl _ => cases h
  | int _ => cases h
  | str _ => cases h
theorem sl_data : SlR X (fun x lo hi H Q => ∃ d S P, Rep X.K H x d ∧ RepS X.K H S ∧ oSlice d lo hi S P ∧ okE X.K H P Q) := by
  intro pins s σ H x v vl vu lo hi sl Q I rx hs pl pu ⟨d, S, P, r, rs, ho, hq⟩
  rcases oSlice_of ho with ⟨z, rfl, hz, q⟩ | ⟨ds, rfl, q⟩ | ⟨ds, hn, es, q⟩
  · cases r
    exact L2.sl_str pins s σ H _ v vl vu lo hi sl Q I rx hs pl pu ⟨z, rfl, hz, hq.here q (.str _) rs⟩
  · cases r with
    | tup h1 t1 =>
      refine sl_tupA pins s σ H _ v vl vu lo hi sl Q I rx hs pl pu ⟨_, _, rfl, h1, fun ⟨w1, w2⟩ => ?_, fun _ p np => hq _ S _ _ q (Ext.new np) (.tup (.of upd_same) ((cut_rep t1 lo hi).ext (Ext.new np))) (rs.new np)⟩
      have e : cutD ds lo hi = ds := by
        rw [t1.length] at w1 w2
        unfold cutD
        rw [w1, w2, List.drop_zero, Nat.sub_zero, List.take_length]
      rw [e] at q
      exact hq.here q (.tup h1 t1) rs
  · obtain ⟨p, vs, rfl, hl, t⟩ := seqL_rep r rs es hn
    obtain ⟨T, id, h1, h2, h3⟩ := sl_list pins s σ H _ v vl vu lo hi sl (fun v H' => ∃ p, v = .ref p ∧ H p = none ∧ H' = upd H p (.lst (cutV vs lo hi))) I rx hs pl pu ⟨p, vs, rfl, hl, fun p np => ⟨p, rfl, np, rfl⟩⟩
    refine ⟨T, id, h1, h2, thn h3 fun u s1 ⟨v', H', I', rv, p, ev, np, eH⟩ => ?_⟩
    subst ev; subst eH
    obtain ⟨ob, J⟩ := freeze I' upd_same
    rw [upd_upd] at J
    exact ⟨.ref p, _, J, rv, hq _ S _ _ q (Ext.new np) (.lst (.inl ⟨ob, upd_same⟩) ((cut_rep t lo hi).ext (Ext.new np))) (rs.new np)⟩
theorem ie_slice (he : IE X W e wx) (hl : IO X W lo wl) (hu : IO X W hi wh) : IE X W (.Subscript e (.Slice lo hi none p2) pos) (wSlice wx wl wh) :=
  (pe_slice sl_data he hl hu).of fun σ H Q ⟨env, S, P, x, re, rs, h, hq, hx⟩ => ⟨env, S, _, x, re, rs, h, fun d S1 v1 H1 p1 e1 r1 s1 => ⟨env, S1, _, x, re.ext e1, s1, p1, fun l S2 H2 q2 e2 s2 => ⟨env, S2, _, x, (re.ext e1).ext e2, s2, q2, fun u S3 H3 q3 e3 s3 =>
    ⟨d, S3, P, (r1.ext e2).ext e3, s3, q3, hq.ext ((e1.trans e2).trans e3)⟩, hx.ext (e1.trans e2)⟩, hx.ext e1⟩, hx⟩
/-- xs[::-1] of a list or a tuple -/
def wRev (wx : WE) : WE := fun env S P X => wx env S (fun x S' => match x with
  | .tup ds => P (.tup ds.reverse) S'
  | _ => match seqOf S' x with
    | some ds => P (.lst ds.reverse) S'
    | none => False) X
theorem ie_rev {k : Nat} {p1 p3 : Pos} (he : IE X W e wx) : IE X W (.Subscript e (.Slice none none (some (.UnaryOp .USub (.Constant (.int 1) k p1) p2)) p3) pos) (wRev wx) := by
  refine ⟨fun pins s σ H Q I ⟨env, S, P, x, re, rs, hw, hq, hx⟩ => ?_⟩
  refine thn ((pe_back he).run pins s σ H (fun v H' => (∃ p ds vs H1 S1, v = .ref p ∧ H1 p = none ∧ H' = upd H1 p (.lst vs) ∧ RepL X.K H1 vs ds ∧ RepS X.K H1 S1 ∧ Ext H H1 ∧ P (.lst ds) S1) ∨
      (∃ p ds vs H1 S1, v = .ref p ∧ H1 p = none ∧ H' = upd H1 p (.tup vs) ∧ RepL X.K H1 vs ds ∧ RepS X.K H1 S1 ∧ Ext H H1 ∧ P (.tup ds) S1)) I
    ⟨env, S, _, x, re, rs, hw, fun d S1 v H1 q e1 r1 s1 => ?_, hx⟩) fun u s1 ⟨v, H', I', rv, hh⟩ => ?_
  · by_cases ht : ∃ es, d = .tup es
    · obtain ⟨es, rfl⟩ := ht
      cases r1 with
      | tup h1 t1 => exact ⟨_, _, rfl, .inr ⟨h1, fun l nl => .inr ⟨l, es.reverse, _, H1, S1, rfl, nl, rfl, t1.rev, s1, e1, q⟩⟩⟩
    · have hn : ∀ es, d ≠ .tup es := fun es z => ht ⟨es, z⟩
      have hs : ∃ ds, seqOf S1 d = some ds ∧ P (.lst ds.reverse) S1 := by
        cases d with
        | tup es => exact (ht ⟨es, rfl⟩).elim
        | lst ds => exact ⟨ds, rfl, q⟩
        | ref a =>
          cases e : seqOf S1 (.ref a) with
          | none => simp only [e] at q
          | some ds => simp only [e] at q; exact ⟨ds, rfl, q⟩
        | str _ => exact q.elim
        | non => exact q.elim
        | bl _ => exact q.elim
        | int _ => exact q.elim
      obtain ⟨ds, es, q⟩ := hs
      obtain ⟨p, vs, rfl, hl, t⟩ := seqL_rep r1 s1 es hn
      exact ⟨p, vs, rfl, .inl ⟨hl, fun l nl => .inl ⟨l, ds.reverse, vs.reverse, H1, S1, rfl, nl, rfl, t.rev, s1, e1, q⟩⟩⟩
  · rcases hh with ⟨p, ds, vs, H1, S1, ev, np, eH, r1, s1', e1, q⟩ | ⟨p, ds, vs, H1, S1, ev, np, eH, r1, s1', e1, q⟩
    · subst ev; subst eH
      obtain ⟨ob, J⟩ := freeze I' upd_same
      rw [upd_upd] at J
      exact ⟨.ref p, _, J, rv, hq _ S1 _ _ q (e1.trans (Ext.new np)) (.lst (.inl ⟨ob, upd_same⟩) (r1.ext (Ext.new np))) (s1'.new np)⟩
    · subst ev; subst eH
      exact ⟨.ref p, _, I', rv, hq _ S1 _ _ q (e1.trans (Ext.new np)) (.tup (.of upd_same) (r1.ext (Ext.new np))) (s1'.new np)⟩
/-- as a new list that may change -/
def wRevN (wx : WE) : WE := fun env S P X => wx env S (fun x S' => match x with
  | .tup _ => False
  | _ => match seqOf S' x with
    | some ds => ∀ p, S' p = none → P (.ref p) (sput S' p (.lst ds.reverse))
    | none => False) X
theorem ie_revN {k : Nat} {p1 p3 : Pos} (he : IE X W e wx) : IE X W (.Subscript e (.Slice none none (some (.UnaryOp .USub (.Constant (.int 1) k p1) p2)) p3) pos) (wRevN wx) :=
  (pe_revL he).of fun σ H Q ⟨env, S, P, x, re, rs, hw, hq, hx⟩ => ⟨env, S, _, x, re, rs, hw, fun d S1 v H1 q e1 r1 s1 => by
    have hn : ∀ es, d ≠ .tup es := fun es z => by subst z; exact q
    have hs : ∃ ds, seqOf S1 d = some ds ∧ ∀ p, S1 p = none → P (.ref p) (sput S1 p (.lst ds.reverse)) := by
      cases d with
      | tup _ => exact q.elim
      | lst ds => exact ⟨ds, rfl, q⟩
      | ref a =>
        cases e : seqOf S1 (.ref a) with
        | none => simp only [e] at q
        | some ds => simp only [e] at q; exact ⟨ds, rfl, q⟩
      | str _ => exact q.elim
      | non => exact q.elim
      | bl _ => exact q.elim
      | int _ => exact q.elim
    obtain ⟨ds, es, q⟩ := hs
    obtain ⟨p, vs, rfl, hl, t⟩ := seqL_rep r1 s1 es hn
    exact ⟨p, vs, rfl, hl, fun l nl => hq _ _ _ _ (q l (s1.free nl)) (e1.trans (Ext.new nl)) (.ref l) (s1.newL nl t.rev)⟩, hx⟩
/-! ### methods of lists that change -/
def oApp : O2 := fun x y S P => match x with
  | .ref a => match S a with
    | some (.lst ds) => ds.length < sizeLine ∧ P .non (sput S a (.lst (ds ++ [y])))
    | none => False
  | _ => False
def oPop : O1 := fun x S P => match x with
  | .ref a => match S a with
    | some (.lst ds) => match ds[ds.length - 1]? with
      | some d => P d (sput S a (.lst ds.dropLast))
      | none => False
    | none => False
  | _ => False
/-- it is a list now -/
def isL (S : Sto) (x : D) : Prop := match x with
  | .ref a => match S a with
    | some (.lst _) => True
    | none => False
  | _ => False
def wApp (wo w : WE) : WE := fun env S P X => wo env S (fun x S1 => isL S1 x ∧ w env S1 (fun y S2 => oApp x y S2 P) X) X
def wPop (wo : WE) : WE := fun env S P X => wo env S (fun x S1 => oPop x S1 P) X
theorem oApp_of {x y : D} {S : Sto} {P : PD} (h : oApp x y S P) : ∃ a ds, x = .ref a ∧ S a = some (.lst ds) ∧ ds.length < sizeLine ∧ P .non (sput S a (.lst (ds ++ [y]))) := by
  cases x with
  | ref a =>
    cases e : S a with
    | none => simp only [oApp, e] at h
    | some z =>
      cases z with
      | lst ds => simp only [oApp, e] at h; exact ⟨a, ds, rfl, e, h⟩
  | _ => exact h.elim
theorem oPop_of {x : D} {S : Sto} {P : PD} (h : oPop x S P) : ∃ a ds d, x = .ref a ∧ S a = some (.lst ds) ∧ ds[ds.length - 1]? = some d ∧ P d (sput S a (.lst ds.dropLast)) := by
  cases x with
  | ref a =>
    cases e : S a with
    | none => simp only [oPop, e] at h
    | some z =>
      cases z with
      | lst ds =>
        cases e2 : ds[ds.length - 1]? with
        | none => simp only [oPop, e, e2] at h
        | some d => simp only [oPop, e, e2] at h; exact ⟨a, ds, d, rfl, e, e2, h⟩
  | _ => exact h.elim
theorem stays {K : PySem.W.Frag} {H H' : Hp} {S : Sto} {a : Addr} {ds : List D} {vs : List V} (rs : RepS K H' S) (e : S a = some (.lst ds)) (h : H' a = some (.lst vs)) : RepL K H' vs ds := by
  obtain ⟨us, q, t⟩ := rs a _ e
  rw [h] at q
  cases q
  exact t
theorem isL_ty {K : PySem.W.Frag} {H : Hp} {S : Sto} {v : V} {d : D} (r : Rep K H v d) (rs : RepS K H S) (h : isL S d) : tyV K "list" v H := by
  cases r with
  | ref a =>
    cases e : S a with
    | none => simp only [isL, e] at h
    | some o =>
      cases o with
      | lst es =>
        obtain ⟨vs, q, t⟩ := rs a _ e
        exact .inl ⟨rfl, vs, .of q⟩
  | _ => exact h.elim
theorem ie_append (ho : IE X W o wo) (he : IE X W e wx) (hbase : attributeBase o "append" X.env (eval o X.env) = eval o X.env) (hline : (apos.endLine == cpos.line) = true)
    (hfew : ((backTo cpos (starEach [e] X.env)).all (fun x => !x.1) && (backToKw cpos (keywordEach [] X.env)).all (fun x => x.1.isSome) && decide ([e].length + ([] : List Keyword).length + (if ([] : List Keyword).isEmpty then 0 else 1) < 30)) = true)
    (hs : starEach [e] X.env = (false, eval e X.env) :: starEach [] X.env) : IE X W (.Call (.Attribute o "append" apos) [e] [] cpos) (wApp wo wx) := by
  refine (pe_bm PySem.F.plainAttrs_list PySem.F.slot_list_append PySem.F.type_list_append mt_append ho (pa_cons he pa_nil hs) hbase hfew hline hs rfl).of fun σ H Q ⟨env, S, P, x, re, rs, hw, hq, hx⟩ => ?_
  refine ⟨env, S, _, x, re, rs, hw, fun d S1 v H1 q e1 r1 s1 => ⟨isL_ty r1 s1 q.1, env, S1, _, x, re.ext e1, s1, q.2, fun y S2 u H2 q2 e2 r2 s2 => ?_, hx.ext e1⟩, hx⟩
  obtain ⟨a, ds, rfl, eS, hz, q3⟩ := oApp_of q2
  cases r1
  obtain ⟨vs, eH, t⟩ := s2 a _ eS
  exact ⟨a, vs, u, rfl, rfl, eH, by rw [t.length]; exact hz, hq _ _ _ _ q3 ((e1.trans e2).trans (Ext.put eH)) .non (s2.putL eH (t.append (.cons r2 .nil)))⟩
theorem ie_pop (ho : IE X W o wo) (hbase : attributeBase o "pop" X.env (eval o X.env) = eval o X.env) (hline : (apos.endLine == cpos.line) = true) : IE X W (.Call (.Attribute o "pop" apos) [] [] cpos) (wPop wo) := by
  refine (pe_bm0 PySem.F.plainAttrs_list PySem.F.slot_list_pop PySem.F.type_list_pop mt_pop ho hbase hline).of fun σ H Q ⟨env, S, P, x, re, rs, hw, hq, hx⟩ => ?_
  refine ⟨env, S, _, x, re, rs, hw, fun d S1 v H1 q e1 r1 s1 => ?_, hx⟩
  obtain ⟨a, ds, y, rfl, eS, ey, q3⟩ := oPop_of q
  cases r1
  obtain ⟨vs, eH, t⟩ := s1 a _ eS
  obtain ⟨u, eu, ru⟩ := t.get ey
  exact ⟨.inl ⟨rfl, vs, .of eH⟩, a, vs, u, rfl, rfl, eH, by rw [t.length]; exact eu, hq _ _ _ _ q3 (e1.trans (Ext.put eH)) (ru.ext (Ext.put eH)) (s1.putL eH t.dropLast)⟩
end
/-! ### comprehensions -/
def sdel (S : Sto) (a : Addr) : Sto := fun b => if b = a then none else S b
def Sub (S' S : Sto) : Prop := ∀ a o, S' a = some o → S a = some o
theorem Sub.refl (S : Sto) : Sub S S := fun _ _ e => e
theorem RepS.sub {K : PySem.W.Frag} {H : Hp} {S S' : Sto} (r : RepS K H S) (h : Sub S' S) : RepS K H S' := fun a o e => r a o (h a o e)
theorem sdel_sub (S : Sto) (a : Addr) : Sub (sdel S a) S := fun b o e => by
  unfold sdel at e
  split at e
  · cases e
  · exact e
theorem sdel_put {S : Sto} {a : Addr} {o : DO} (h : S a = none) : sdel (sput S a o) a = S := by
  funext b
  unfold sdel sput
  by_cases hb : b = a
  · rw [if_pos hb, hb, h]
  · rw [if_neg hb, if_neg hb]
/-- the block's own names are forgotten -/
def wipeD (env : Env) : List Nat → Env
  | [] => env
  | v :: vs => (wipeD env vs).set v none
/-- one more item -/
def lcPut (p : Addr) (y : D) (k : Sto → Prop) (S : Sto) : Prop := match S p with
  | some (.lst acc) => acc.length < sizeLine ∧ k (sput S p (.lst (acc ++ [y])))
  | none => False
def lcEnd (P : PD) (p : Addr) (S : Sto) : Prop := match S p with
  | some (.lst out) => P (.lst out) (sdel S p)
  | none => False
theorem lcPut_of {p : Addr} {y : D} {k : Sto → Prop} {S : Sto} (h : lcPut p y k S) : ∃ acc, S p = some (.lst acc) ∧ acc.length < sizeLine ∧ k (sput S p (.lst (acc ++ [y]))) := by
  unfold lcPut at h
  split at h
  · exact ⟨_, by assumption, h⟩
  · exact h.elim
theorem lcEnd_of {P : PD} {p : Addr} {S : Sto} (h : lcEnd P p S) : ∃ out, S p = some (.lst out) ∧ P (.lst out) (sdel S p) := by
  unfold lcEnd at h
  split at h
  · exact ⟨_, by assumption, h⟩
  · exact h.elim
def lcD (g : WG) (t : WB) (w : WE) (vs : List Nat) (env : Env) (p : Addr) (k : Sto → Prop) : List D → Sto → Prop
  | [], S => k S
  | d :: ds, S => g d (wipeD env vs) S (fun e1 S1 => t e1 S1 (fun b S2 => if b = true then w e1 S2 (fun y S3 => lcPut p y (lcD g t w vs env p k ds) S3) (fun _ _ => False) else lcD g t w vs env p k ds S2) (fun _ _ => False)) (fun _ _ => False)
def wLc (wi : WI) (g : WG) (t : WB) (w : WE) (vs : List Nat) : WE := fun env S P X => wi env S (fun ds S1 => ∀ p, S1 p = none → lcD g t w vs env p (lcEnd P p) ds (sput S1 p (.lst []))) X
def tYesD : WB := fun _ S P _ => P true S
section
variable {X : Cx} {W : WX}
/-- within a block nothing is let out -/
abbrev W0 : WX := fun _ _ _ _ => False
abbrev ITs (X : Cx) (ifs : List Expr) (w : WB) : Prop := PTs X ifs (tT X.K X.mg W0 w)
theorem its_nil : ITs X [] tYesD := ⟨fun pins s σ H Q I ⟨env, S, P, x, re, rs, h, hq, hx⟩ => pts_nil.run pins s σ H Q I (hq true S H h (Ext.refl H) rs)⟩
theorem its_one {c : Expr} {t : WB} (h : IT X W0 c t) : ITs X [c] t := pts_one h
theorem wipe_rep {K : PySem.W.Frag} {H : Hp} {σ : St} {env : Env} (r : RepE K H σ env) : ∀ vs : List Nat, RepE K H (wipe σ vs) (wipeD env vs)
  | [] => r
  | v :: vs => (wipe_rep r vs).forget
theorem wipe_but {vs : List Nat} {σ σ' : St} (h : But vs σ σ') : wipe σ' vs = wipe σ vs := by
  apply List.ext_getElem?
  intro i
  by_cases hi : i ∈ vs
  · have side : ∀ (vs : List Nat) (τ : St) (i : Nat), i ∈ vs → (wipe τ vs)[i]? = if i < τ.length then some none else none := by
      intro vs
      induction vs with
      | nil => intro τ i h; cases h
      | cons v r ih =>
        intro τ i h
        show ((wipe τ r).set v none)[i]? = _
        by_cases hv : v = i
        · subst hv
          rw [List.getElem?_set]
          simp [wipe_length]
        · rw [List.getElem?_set_ne hv]
          exact ih τ i (by rcases List.mem_cons.mp h with z | z; exact absurd z.symm hv; exact z)
    rw [side vs σ' i hi, side vs σ i hi, h.1]
  · rw [wipe_out hi, wipe_out hi]
    exact h.2 i hi
theorem lc_wish {own : List (Str × Nat)} {wi : WI} {g : WG} {t : WB} {w : WE} {σ : St} {H : Hp} {env : Env} {S : Sto} {P : PD} {x : PX} {Q : VK} (hQ : ∀ v H', (∃ p vs out S2, v = .ref p ∧ H' p = some (.lst vs) ∧ RepL X.K H' vs out ∧ RepS X.K H' (sdel S2 p) ∧ Ext H H' ∧ P (.lst out) (sdel S2 p)) → Q v H') (re : RepE X.K H σ env) (rs : RepS X.K H S) (hw : wLc wi g t w (own.map (fun q : Str × Nat => q.2)) env S P x) (hx : okX X.K X.mg W H σ x) :
    tLc (tI X.K X.mg W wi) (tG X.K X.mg W0 (own.map (fun q : Str × Nat => q.2)) g) (tT X.K X.mg W0 t) (tE X.K X.mg W0 w) (own.map (fun q : Str × Nat => q.2)) σ H Q := by
  refine ⟨env, S, _, x, re, rs, hw, hx, fun ds S1 J H1 G q e1 s1 hG wk p np => ?_⟩
  have q0 := q p (s1.free np)
  have en : Ext H1 (upd H1 p (.lst [])) := Ext.new np
  refine ⟨fun i m H2 => i + m = ds.length ∧ ∃ S2, Ext H H2 ∧ RepS X.K H2 S2 ∧ G H2 ∧ lcD g t w (own.map (fun q : Str × Nat => q.2)) env p (lcEnd P p) (ds.drop i) S2, ⟨ds.length, by omega, _, e1.trans en, s1.newL np .nil, wk.stay _ _ hG en, q0⟩, fun i m H2 ⟨hm, S2, e2, s2, hG2, q2⟩ => ?_⟩
  by_cases hl : i < ds.length
  · have ed : ds.drop i = ds[i] :: ds.drop (i + 1) := List.drop_eq_getElem_cons hl
    rw [ed] at q2
    refine .inr ⟨wk.go i H2 hG2 hl, fun H3 => i + 1 + (m - 1) = ds.length ∧ ∃ S3, Ext H H3 ∧ RepS X.K H3 S3 ∧ G H3 ∧ lcD g t w (own.map (fun q : Str × Nat => q.2)) env p (lcEnd P p) (ds.drop (i + 1)) S3, fun H3 h3 => ⟨m - 1, by omega, h3⟩, fun v H3 hy => ?_⟩
    obtain ⟨e3, r3, k3, _⟩ := wk.yld i H2 v H3 ds[i] hG2 (List.getElem?_eq_getElem hl) hy
    refine ⟨ds[i], wipeD env (own.map (fun q : Str × Nat => q.2)), S2, _, _, r3, (wipe_rep (re.ext (e2.trans e3)) _), k3 S2 s2, q2, fun env4 S4 σ4 H4 p4 e4 r4 s4 b4 => ?_, fun _ _ _ _ _ _ _ (z : False) => z.elim⟩
    refine ⟨?_, env4, S4, _, _, r4, s4, p4, fun b S5 H5 p5 e5 s5 => ?_, fun _ _ _ _ _ (z : False) => z.elim⟩
    · rw [wipe_but b4]
      have ww : ∀ (vs : List Nat) (τ : St), wipe (wipe τ vs) vs = wipe τ vs := fun vs τ => by
        refine wipe_but ⟨wipe_length _ _, fun i hi => wipe_out hi⟩
      exact ww _ _
    · cases b with
      | true =>
        refine ⟨env4, S5, _, _, r4.ext e5, s5, p5, fun y S6 u H6 p6 e6 r6 s6 => ?_, fun _ _ _ _ _ (z : False) => z.elim⟩
        obtain ⟨acc, eS, hz, q6⟩ := lcPut_of p6
        obtain ⟨vs, eH, tl⟩ := s6 p _ eS
        have ex : Ext H3 (upd H6 p (.lst (vs ++ [u]))) := ((e4.trans e5).trans e6).trans (Ext.put eH)
        exact ⟨vs, eH, by rw [tl.length]; exact hz, by omega, _, (e2.trans e3).trans ex, s6.putL eH (tl.append (.cons r6 .nil)), wk.stay _ _ hG2 (e3.trans ex), q6⟩
      | false => exact ⟨by omega, S5, (e2.trans e3).trans (e4.trans e5), s5, wk.stay _ _ hG2 (e3.trans (e4.trans e5)), p5⟩
  · have ed : ds.drop i = [] := List.drop_eq_nil_of_le (by omega)
    rw [ed] at q2
    refine .inl ⟨wk.stop i H2 hG2 (by omega), ?_⟩
    obtain ⟨out, eS, q3⟩ := lcEnd_of q2
    obtain ⟨vs, eH, tl⟩ := s2 p _ eS
    exact hQ _ _ ⟨p, vs, out, S2, rfl, eH, tl, s2.sub (sdel_sub _ _), e2, q3⟩
theorem ie_lc {elt tg iter : Expr} {ifs : List Expr} {scope : Scope} {own : List (Str × Nat)} {pos : Pos} {wi : WI} {g : WG} {t : WB} {w : WE} (hc : X.calm = true) (hN : X.N.Nodup) (hi : II X W tg iter wi) (ok : BlkOk X.N X.env.scope scope own)
    (hg : ∀ (s : Shared) (H : Hp) (C : Addr) (cl : List (Str × Addr)) (fp : List Addr), IG (X.blk s H scope (compEnvC scope cl C X.env) fp) W0 (own.map (fun q : Str × Nat => q.2)) tg g)
    (ht : ∀ (s : Shared) (H : Hp) (C : Addr) (cl : List (Str × Addr)) (fp : List Addr), ITs (X.blk s H scope (compEnvC scope cl C X.env) fp) ifs t)
    (he : ∀ (s : Shared) (H : Hp) (C : Addr) (cl : List (Str × Addr)) (fp : List Addr), IE (X.blk s H scope (compEnvC scope cl C X.env) fp) W0 elt w)
    (hs : ∀ x, foldedSetIterable iter X.env x = pure x) : IE X W (.ListComp elt [⟨tg, iter, ifs, 0⟩] scope pos) (wLc wi g t w (own.map (fun q : Str × Nat => q.2))) := by
  refine ⟨fun pins s σ H Q I ⟨env, S, P, x, re, rs, hw, hq, hx⟩ => ?_⟩
  refine thn ((pe_lc (g := tG X.K X.mg W0 (own.map (fun q : Str × Nat => q.2)) g) (tt := tT X.K X.mg W0 t) (te := tE X.K X.mg W0 w) hc hN hi ok hg ht he hs).run pins s σ H (fun v H' => ∃ p vs out S2, v = .ref p ∧ H' p = some (.lst vs) ∧ RepL X.K H' vs out ∧ RepS X.K H' (sdel S2 p) ∧ Ext H H' ∧ P (.lst out) (sdel S2 p)) I (lc_wish (fun _ _ z => z) re rs hw hx)) fun u s1 ⟨v, H', I', rv, p, vs, out, S2, ev, hp, r1, s1', e1, q⟩ => ?_
  subst ev
  obtain ⟨ob, J⟩ := freeze I' hp
  have ee : Ext H' (upd H' p (.frz ob (.lst vs))) := Ext.put hp
  refine ⟨.ref p, _, J, rv, hq _ _ _ _ q (e1.trans ee) (.lst (.inl ⟨ob, upd_same⟩) (r1.ext ee)) fun a o eo => ?_⟩
  have ha : a ≠ p := fun z => by
    subst z
    unfold sdel at eo
    rw [if_pos rfl] at eo
    cases eo
  have t := s1' a o eo
  cases o with
  | lst es =>
    obtain ⟨ws, w1, w2⟩ := t
    exact ⟨ws, by rw [upd_ne ha]; exact w1, w2.ext ee⟩
theorem is_setLc {i : Nat} {y : Str} {py : Pos} {elt tg iter : Expr} {ifs : List Expr} {scope : Scope} {own : List (Str × Nat)} {pos spos : Pos} {wi : WI} {g : WG} {t : WB} {w : WE} (hc : X.calm = true) (hN : X.N.Nodup) (hy : X.N[i]? = some y) (hyl : X.env.scope.names.lookup y = some .local)
    (hsw : swapsWith (.ListComp elt [⟨tg, iter, ifs, 0⟩] scope pos) (some (.Name y py)) spos.line X.env = pure true) (hi : II X W tg iter wi) (ok : BlkOk X.N X.env.scope scope own)
    (hg : ∀ (s : Shared) (H : Hp) (C : Addr) (cl : List (Str × Addr)) (fp : List Addr), IG (X.blk s H scope (compEnvC scope cl C X.env) fp) W0 (own.map (fun q : Str × Nat => q.2)) tg g)
    (ht : ∀ (s : Shared) (H : Hp) (C : Addr) (cl : List (Str × Addr)) (fp : List Addr), ITs (X.blk s H scope (compEnvC scope cl C X.env) fp) ifs t)
    (he : ∀ (s : Shared) (H : Hp) (C : Addr) (cl : List (Str × Addr)) (fp : List Addr), IE (X.blk s H scope (compEnvC scope cl C X.env) fp) W0 elt w)
    (hs : ∀ x, foldedSetIterable iter X.env x = pure x) : IS X W (.Assign [.Name y py] (.ListComp elt [⟨tg, iter, ifs, 0⟩] scope pos) spos) (sSet (wLc wi g t w (own.map (fun q : Str × Nat => q.2))) (gVar i)) := by
  refine ⟨fun pins s σ H D I ⟨env, S, P, x, re, rs, hw, hq, hx⟩ => ?_⟩
  refine thn ((ps_setLc (g := tG X.K X.mg W0 (own.map (fun q : Str × Nat => q.2)) g) (tt := tT X.K X.mg W0 t) (te := tE X.K X.mg W0 w) hc hN hy hyl hsw hi ok hg ht he hs).run pins s σ H { nx := fun σ' H' => ∃ v, σ' = σ.set i (some v) ∧ ∃ p vs out S2, v = .ref p ∧ H' p = some (.lst vs) ∧ RepL X.K H' vs out ∧ RepS X.K H' (sdel S2 p) ∧ Ext H H' ∧ gVar i (.lst out) env (sdel S2 p) P.nx (fun _ _ => False), rt := fun _ _ => False } I ?_) fun f s1 hsp => ?_
  · exact lc_wish (fun v H' q => ⟨v, rfl, q⟩) re rs hw (hx.at re)
  · cases f with
    | next =>
      obtain ⟨σ', H', I', v, e0, p, vs, out, S2, ev, hp, r1, s1', e1, q⟩ := hsp
      subst ev; subst e0
      obtain ⟨ob, J⟩ := freeze I' hp
      have ee : Ext H' (upd H' p (.frz ob (.lst vs))) := Ext.put hp
      refine ⟨_, _, J, hq.nx _ _ _ _ q (e1.trans ee) ((re.ext (e1.trans ee)).set (.lst (.inl ⟨ob, upd_same⟩) (r1.ext ee))) fun a o eo => ?_⟩
      have ha : a ≠ p := fun z => by
        subst z
        unfold sdel at eo
        rw [if_pos rfl] at eo
        cases eo
      have t := s1' a o eo
      cases o with
      | lst es =>
        obtain ⟨ws, w1, w2⟩ := t
        exact ⟨ws, by rw [upd_ne ha]; exact w1, w2.ext ee⟩
    | brk => obtain ⟨_, _, _, z⟩ := hsp; exact z.elim
    | cont => obtain ⟨_, _, _, z⟩ := hsp; exact z.elim
    | ret u => obtain ⟨_, _, _, _, _, z⟩ := hsp; exact z.elim
/-- as a new list that may change -/
def lcEndN (P : PD) (p : Addr) (S : Sto) : Prop := match S p with
  | some (.lst _) => P (.ref p) S
  | none => False
theorem lcEndN_of {P : PD} {p : Addr} {S : Sto} (h : lcEndN P p S) : ∃ out, S p = some (.lst out) ∧ P (.ref p) S := by
  unfold lcEndN at h
  split at h
  · exact ⟨_, by assumption, h⟩
  · exact h.elim
def wLcN (wi : WI) (g : WG) (t : WB) (w : WE) (vs : List Nat) : WE := fun env S P X => wi env S (fun ds S1 => ∀ p, S1 p = none → lcD g t w vs env p (lcEndN P p) ds (sput S1 p (.lst []))) X
/-- ahead of a statement a list is locked for good -/
def sPre (i : Nat) (u : WS) : WS := fun P X env S => match env[i]? with
  | some (some (.ref a)) => match S a with
    | some (.lst ds) => u P X (env.set i (some (.lst ds))) (sdel S a)
    | none => False
  | _ => u P X env S
theorem is_pre {st : Stmt} {i : Nat} {u : WS} (h : IS X W st u) : IS X W st (sPre i u) := by
  refine ⟨fun pins s σ H D I ⟨env, S, P, x, re, rs, hw, hq, hx⟩ => ?_⟩
  have gen : u P x env S → _ := fun hw => h.run pins s σ H D I ⟨env, S, P, x, re, rs, hw, hq, hx⟩
  unfold sPre at hw
  split at hw
  · rename_i a ea
    split at hw
    · rename_i ds eS
      obtain ⟨vs, eH, rl⟩ := rs a _ eS
      obtain ⟨ob, J⟩ := freeze I eH
      have ee : Ext H (upd H a (.frz ob (.lst vs))) := Ext.put eH
      obtain ⟨v, ev, rv⟩ := re.get i _ ea
      cases rv
      refine h.run pins s σ _ D J ⟨env.set i (some (.lst ds)), sdel S a, P, x, ?_, fun b o eo => ?_, hw, hq.ext ee, hx.ext ee⟩
      · have hs : σ = σ.set i (some (.ref a)) := by
          obtain ⟨hl, e2⟩ := List.getElem?_eq_some_iff.mp ev
          rw [← e2, List.set_getElem_self]
        rw [hs]
        exact (re.ext ee).set (.lst (.inl ⟨ob, upd_same⟩) (rl.ext ee))
      · have hb : b ≠ a := fun z => by
          subst z
          unfold sdel at eo
          rw [if_pos rfl] at eo
          cases eo
        have t := (rs.sub (sdel_sub S a)) b o eo
        cases o with
        | lst es =>
          obtain ⟨ws, w1, w2⟩ := t
          exact ⟨ws, by rw [upd_ne hb]; exact w1, w2.ext ee⟩
    · exact hw.elim
  · exact gen hw
theorem lc_wishN {own : List (Str × Nat)} {wi : WI} {g : WG} {t : WB} {w : WE} {σ : St} {H : Hp} {env : Env} {S : Sto} {P : PD} {x : PX} {Q : VK} (hQ : ∀ v H', (∃ p vs out S2, v = .ref p ∧ H' p = some (.lst vs) ∧ RepL X.K H' vs out ∧ RepS X.K H' S2 ∧ Ext H H' ∧ P (.ref p) S2) → Q v H') (re : RepE X.K H σ env) (rs : RepS X.K H S) (hw : wLcN wi g t w (own.map (fun q : Str × Nat => q.2)) env S P x) (hx : okX X.K X.mg W H σ x) :
    tLc (tI X.K X.mg W wi) (tG X.K X.mg W0 (own.map (fun q : Str × Nat => q.2)) g) (tT X.K X.mg W0 t) (tE X.K X.mg W0 w) (own.map (fun q : Str × Nat => q.2)) σ H Q := by
  refine ⟨env, S, _, x, re, rs, hw, hx, fun ds S1 J H1 G q e1 s1 hG wk p np => ?_⟩
  have q0 := q p (s1.free np)
  have en : Ext H1 (upd H1 p (.lst [])) := Ext.new np
  refine ⟨fun i m H2 => i + m = ds.length ∧ ∃ S2, Ext H H2 ∧ RepS X.K H2 S2 ∧ G H2 ∧ lcD g t w (own.map (fun q : Str × Nat => q.2)) env p (lcEndN P p) (ds.drop i) S2, ⟨ds.length, by omega, _, e1.trans en, s1.newL np .nil, wk.stay _ _ hG en, q0⟩, fun i m H2 ⟨hm, S2, e2, s2, hG2, q2⟩ => ?_⟩
  by_cases hl : i < ds.length
  · have ed : ds.drop i = ds[i] :: ds.drop (i + 1) := List.drop_eq_getElem_cons hl
    rw [ed] at q2
    refine .inr ⟨wk.go i H2 hG2 hl, fun H3 => i + 1 + (m - 1) = ds.length ∧ ∃ S3, Ext H H3 ∧ RepS X.K H3 S3 ∧ G H3 ∧ lcD g t w (own.map (fun q : Str × Nat => q.2)) env p (lcEndN P p) (ds.drop (i + 1)) S3, fun H3 h3 => ⟨m - 1, by omega, h3⟩, fun v H3 hy => ?_⟩
    obtain ⟨e3, r3, k3, _⟩ := wk.yld i H2 v H3 ds[i] hG2 (List.getElem?_eq_getElem hl) hy
    refine ⟨ds[i], wipeD env (own.map (fun q : Str × Nat => q.2)), S2, _, _, r3, (wipe_rep (re.ext (e2.trans e3)) _), k3 S2 s2, q2, fun env4 S4 σ4 H4 p4 e4 r4 s4 b4 => ?_, fun _ _ _ _ _ _ _ (z : False) => z.elim⟩
    refine ⟨?_, env4, S4, _, _, r4, s4, p4, fun b S5 H5 p5 e5 s5 => ?_, fun _ _ _ _ _ (z : False) => z.elim⟩
    · rw [wipe_but b4]
      have ww : ∀ (vs : List Nat) (τ : St), wipe (wipe τ vs) vs = wipe τ vs := fun vs τ => by
        refine wipe_but ⟨wipe_length _ _, fun i hi => wipe_out hi⟩
      exact ww _ _
    · cases b with
      | true =>
        refine ⟨env4, S5, _, _, r4.ext e5, s5, p5, fun y S6 u H6 p6 e6 r6 s6 => ?_, fun _ _ _ _ _ (z : False) => z.elim⟩
        obtain ⟨acc, eS, hz, q6⟩ := lcPut_of p6
        obtain ⟨vs, eH, tl⟩ := s6 p _ eS
        have ex : Ext H3 (upd H6 p (.lst (vs ++ [u]))) := ((e4.trans e5).trans e6).trans (Ext.put eH)
        exact ⟨vs, eH, by rw [tl.length]; exact hz, by omega, _, (e2.trans e3).trans ex, s6.putL eH (tl.append (.cons r6 .nil)), wk.stay _ _ hG2 (e3.trans ex), q6⟩
      | false => exact ⟨by omega, S5, (e2.trans e3).trans (e4.trans e5), s5, wk.stay _ _ hG2 (e3.trans (e4.trans e5)), p5⟩
  · have ed : ds.drop i = [] := List.drop_eq_nil_of_le (by omega)
    rw [ed] at q2
    refine .inl ⟨wk.stop i H2 hG2 (by omega), ?_⟩
    obtain ⟨out, eS, q3⟩ := lcEndN_of q2
    obtain ⟨vs, eH, tl⟩ := s2 p _ eS
    exact hQ _ _ ⟨p, vs, out, S2, rfl, eH, tl, s2, e2, q3⟩
theorem ie_lcN {elt tg iter : Expr} {ifs : List Expr} {scope : Scope} {own : List (Str × Nat)} {pos : Pos} {wi : WI} {g : WG} {t : WB} {w : WE} (hc : X.calm = true) (hN : X.N.Nodup) (hi : II X W tg iter wi) (ok : BlkOk X.N X.env.scope scope own)
    (hg : ∀ (s : Shared) (H : Hp) (C : Addr) (cl : List (Str × Addr)) (fp : List Addr), IG (X.blk s H scope (compEnvC scope cl C X.env) fp) W0 (own.map (fun q : Str × Nat => q.2)) tg g)
    (ht : ∀ (s : Shared) (H : Hp) (C : Addr) (cl : List (Str × Addr)) (fp : List Addr), ITs (X.blk s H scope (compEnvC scope cl C X.env) fp) ifs t)
    (he : ∀ (s : Shared) (H : Hp) (C : Addr) (cl : List (Str × Addr)) (fp : List Addr), IE (X.blk s H scope (compEnvC scope cl C X.env) fp) W0 elt w)
    (hs : ∀ x, foldedSetIterable iter X.env x = pure x) : IE X W (.ListComp elt [⟨tg, iter, ifs, 0⟩] scope pos) (wLcN wi g t w (own.map (fun q : Str × Nat => q.2))) := by
  refine ⟨fun pins s σ H Q I ⟨env, S, P, x, re, rs, hw, hq, hx⟩ => ?_⟩
  refine thn ((pe_lc (g := tG X.K X.mg W0 (own.map (fun q : Str × Nat => q.2)) g) (tt := tT X.K X.mg W0 t) (te := tE X.K X.mg W0 w) hc hN hi ok hg ht he hs).run pins s σ H (fun v H' => ∃ p vs out S2, v = .ref p ∧ H' p = some (.lst vs) ∧ RepL X.K H' vs out ∧ RepS X.K H' S2 ∧ Ext H H' ∧ P (.ref p) S2) I (lc_wishN (fun _ _ z => z) re rs hw hx)) fun u s1 ⟨v, H', I', rv, p, vs, out, S2, ev, hp, r1, s1', e1, q⟩ => ?_
  subst ev
  exact ⟨.ref p, H', I', rv, hq _ _ _ _ q e1 (.ref p) s1'⟩
theorem is_setLcN {i : Nat} {y : Str} {py : Pos} {elt tg iter : Expr} {ifs : List Expr} {scope : Scope} {own : List (Str × Nat)} {pos spos : Pos} {wi : WI} {g : WG} {t : WB} {w : WE} (hc : X.calm = true) (hN : X.N.Nodup) (hy : X.N[i]? = some y) (hyl : X.env.scope.names.lookup y = some .local)
    (hsw : swapsWith (.ListComp elt [⟨tg, iter, ifs, 0⟩] scope pos) (some (.Name y py)) spos.line X.env = pure true) (hi : II X W tg iter wi) (ok : BlkOk X.N X.env.scope scope own)
    (hg : ∀ (s : Shared) (H : Hp) (C : Addr) (cl : List (Str × Addr)) (fp : List Addr), IG (X.blk s H scope (compEnvC scope cl C X.env) fp) W0 (own.map (fun q : Str × Nat => q.2)) tg g)
    (ht : ∀ (s : Shared) (H : Hp) (C : Addr) (cl : List (Str × Addr)) (fp : List Addr), ITs (X.blk s H scope (compEnvC scope cl C X.env) fp) ifs t)
    (he : ∀ (s : Shared) (H : Hp) (C : Addr) (cl : List (Str × Addr)) (fp : List Addr), IE (X.blk s H scope (compEnvC scope cl C X.env) fp) W0 elt w)
    (hs : ∀ x, foldedSetIterable iter X.env x = pure x) : IS X W (.Assign [.Name y py] (.ListComp elt [⟨tg, iter, ifs, 0⟩] scope pos) spos) (sSet (wLcN wi g t w (own.map (fun q : Str × Nat => q.2))) (gVar i)) := by
  refine ⟨fun pins s σ H D I ⟨env, S, P, x, re, rs, hw, hq, hx⟩ => ?_⟩
  refine thn ((ps_setLc (g := tG X.K X.mg W0 (own.map (fun q : Str × Nat => q.2)) g) (tt := tT X.K X.mg W0 t) (te := tE X.K X.mg W0 w) hc hN hy hyl hsw hi ok hg ht he hs).run pins s σ H { nx := fun σ' H' => ∃ v, σ' = σ.set i (some v) ∧ ∃ p vs out S2, v = .ref p ∧ H' p = some (.lst vs) ∧ RepL X.K H' vs out ∧ RepS X.K H' S2 ∧ Ext H H' ∧ gVar i (.ref p) env S2 P.nx (fun _ _ => False), rt := fun _ _ => False } I ?_) fun f s1 hsp => ?_
  · exact lc_wishN (fun v H' q => ⟨v, rfl, q⟩) re rs hw (hx.at re)
  · cases f with
    | next =>
      obtain ⟨σ', H', I', v, e0, p, vs, out, S2, ev, hp, r1, s1', e1, q⟩ := hsp
      subst ev; subst e0
      exact ⟨_, _, I', hq.nx _ _ _ _ q e1 ((re.ext e1).set (.ref p)) s1'⟩
    | brk => obtain ⟨_, _, _, z⟩ := hsp; exact z.elim
    | cont => obtain ⟨_, _, _, z⟩ := hsp; exact z.elim
    | ret u => obtain ⟨_, _, _, _, _, z⟩ := hsp; exact z.elim
end
end PL
namespace PX
open PySem PySem.W Builtin Builtin.ObjectAttr
/-! ### an own error over Exception: def __init__(self, x): super().__init__(x); self.x = x -/
abbrev exB : List Value := [.type "Exception", .type "BaseException", .type "object"]
def inBody (x : Str) (p1 p2 p3 p4 p5 p6 q1 q2 q3 q4 : Pos) : List Stmt :=
  [.Expr (.Call (.Attribute (.Call (.Name "super" p1) [] [] p2) "__init__" p3) [.Name x p4] [] p5) p6, .Assign [.Attribute (.Name "self" q1) x q2] (.Name x q3) q4]
def inArgs (x : Str) (p1 p2 : Pos) : Arguments := { posonlyargs := [], args := [{ arg := "self", annotation := none, pos := p1 }, { arg := x, annotation := none, pos := p2 }], vararg := none, kwonlyargs := [], kw_defaults := [], kwarg := none, defaults := [] }
def inScope (x : Str) : Scope := { kind := .function, names := [(PySem.Str.ofString "self", .local), (x, .local), (PySem.Str.ofString "__class__", .free), (PySem.Str.ofString "super", .globalImplicit)], isGenerator := false, isCoroutine := false, more := [] }
/-- what the written part says of the class at C, named cn, its __init__ at fI, its cell at cc -/
structure ExTxt (P : Program) (K : Frag) (mg : Str → Option Value) (cn x : Str) (C fI : Addr) : Prop where
  gC : mg cn = some (.ref C)
  nS : mg "super" = none
  cls : ∃ nm q N bs bm sn sub ab col dd k0 k1 k2 k3 k5, K.lookup C = some (excClassObj nm q C N bs bm true sn sub ab col dd k0 k1 k2 k3 k5 "Exception.__new__") ∧ excTail exB bm = true ∧ alongIn K "__init__" bm = some (some (.builtin "Exception.__init__"))
  sa : findIn K (.ref C) "__setattr__" = some (some (.builtin "object.__setattr__"))
  ga : findIn K (.ref C) "__getattribute__" = some (some (.builtin "BaseException.__getattribute__"))
  gg : findIn K (.ref C) "__getattr__" = some none
  noN : findIn K (.ref C) x = some none
  tk : takerIn K C x = some none
  iC : findIn K (.ref C) "__init__" = some (some (.ref fI))
  tC : typeIn K (.ref fI) = some (.type "function")
  kC : keepIn K (.ref C) = true
  exC : subIn K (.ref C) (.type "BaseException") = some true
  exE : subIn K (.ref C) (.type "Exception") = some true
  sC : mroIn K C (.ref C) = some true
  tyC : typeIn K (.ref C) = some (.type "type")
  hdC : hasDictIn K C = true
  op : nsIn K cStatics "thirdparty.any" = some none
  fn : ∃ (q : Str) (oc : Value) (od : Option Addr) (doc pm : Value) (an : Option Addr) (cda cc : Addr) (ct : Value) (osl : Array (Option Value)) (p1 p2 a1 a2 a3 a4 a5 a6 b1 b2 b3 b4 : Pos),
    K.lookup fI = some ⟨oc, od, .func (fnX "__init__" q (inArgs x p1 p2) (inBody x a1 a2 a3 a4 a5 a6 b1 b2 b3 b4) (inScope x) [("__class__", cc)] .none .none doc pm an (.ref cda) ct), osl⟩ ∧ (a3.endLine == a5.line) = true ∧ codeIn K (.ref cda) q = true ∧
      (∃ ccl cdd vs ccs file tf, K.lookup cda = some ⟨ccl, cdd, .fields vs, ccs⟩ ∧ vs[2]? = some (.str file tf) ∧ ((P.main.file : Str) == file) = true) ∧ ∃ cl cld csl, K.lookup cc = some ⟨cl, cld, .cell (some (.ref C)), csl⟩
  top : (P.main.scope.names.lookup ("super" : Str)).isSome = false
structure InitEnd (h h' : Heap) (x C dx t1 : Addr) (f : Str) (v : Value) : Prop where
  keep : ∀ b o, b ≠ x → h.get? b = some o → h'.get? b = some o
  obj : h'.get? x = some { cls := .ref C, dict := some dx, data := .fields #[.ref t1, .none, .none, .none, .bool false, .none] }
  dbig : h.objs.size ≤ dx
  dne : dx ≠ x
  ns : h'.Ns1 dx (fun y => if y = f then some v else none)
section
variable {prog : Program} {w : World} {A : Around} {E : Value → Shared → Prop} {R : Result → Shared → Prop} {hp : Heap} {g : Array GenState} {d : Drawn} {t : Nat} {os : OsState}
/-- self.f = v, the object without a dict -/
theorem set_new {K : Frag} {name : Str} {tk : Tok} {v : Value} {x C : Addr} {fv : Array Value} {cd : ClassData} (X : K.In hp) (hx : hp.get? x = some { cls := .ref C, data := .fields fv }) (hcd : clsIn K C = some cd) (hov : excOver K C exB = true) (hh : cd.hasDict = true) (ha : takerIn K C name = some none)
    (hq : ∀ h' tk' dx, (∀ b o, b ≠ x → hp.get? b = some o → h'.get? b = some o) → hp.objs.size ≤ dx → dx ≠ x → h'.get? x = some { cls := .ref C, dict := some dx, data := .fields fv } → h'.Ns1 dx (fun y => if y = name then some v else none) → R (.ok (.ret .none)) ⟨h', g, d, tk', os⟩) :
    codeAny (model prog w) A (.call (.builtin "object.__setattr__") ⟨[.ref x, .str name tk, v], []⟩) R ⟨hp, g, d, t, os⟩ := by
  have hxs : x ≠ hp.objs.size := Nat.ne_of_lt (Heap.lt_size hx)
  refine osa_openX (od := none) F.store_Exception X ⟨hx, rfl, rfl, trivial⟩ hov ha fun b => ?_
  have hcls : Looks (model prog w) hp (classData C) cd := looks_clsIn X hcd
  obtain ⟨nm, bs, mro, ns, qn, hd, sn, sb, ab, col, del⟩ := cd
  dsimp only at hh
  subst hh
  show wpAny _ _ (storeInOwnDict (.ref x) (.ref C) (.str name tk) name v b) _ _ _
  unfold storeInOwnDict ownDictForStores
  repeat (first | with_reducible refine HandSPX.store_in_new ?_ ?_ | with_reducible refine wpAny_loadPart_at hx ?_ | with_reducible refine hcls.at ?_ | wp_step)
  · exact ⟨_, #[], _, (Heap.get?_update_ne _ _ _ _ hxs.symm).trans (Heap.get?_push_at rfl rfl), rfl, fun e he => absurd he (by simp), fun _ => rfl⟩
  · intro h' tk' hn' hs
    have hx₁ : (hp.push { cls := .type "dict", data := .dict #[] }).get? x = some { cls := .ref C, data := .fields fv } := Heap.get?_push_of_some _ hx
    refine hq h' tk' hp.objs.size (fun b o hb ho => ?_) (Nat.le_refl _) hxs.symm ?_ hn'
    · exact (hs.2 b (Nat.ne_of_lt (Heap.lt_size ho))).trans ((Heap.get?_update_ne _ _ _ _ hb).trans (Heap.get?_push_of_some _ ho))
    · exact (hs.2 x hxs).trans (Heap.get?_update_self _ hx₁ rfl)
end
section
variable {prog : Program} {w : World} {A : Around} {R : Result → Shared → Prop} {s : Shared} {K : Frag} {mg mb : Str → Option Value} {cn f : Str} {C fI : Addr}
structure FldOk (f : Str) : Prop where
  bd : ∀ q p1 p2 body scope cl doc pm an cdv ct a b, bindArgs (fnX "__init__" q (inArgs f p1 p2) body scope cl .none .none doc pm an cdv ct) ⟨[a, b], []⟩ = pure [((PySem.Str.ofString "self" : Str), a), (f, b)]
  kS : (inScope f).names.lookup ("super" : Str) = some .globalImplicit
  kC : (inScope f).names.lookup ("__class__" : Str) = some .free
  kI : (inScope f).names.lookup ("self" : Str) = some .local
  kF : (inScope f).names.lookup f = some .local
  mI : ∀ a b : Value, ([((PySem.Str.ofString "self" : Str), a), (f, b)] : List (Str × Value)).reverse.lookup ("self" : Str) = some a
  mF : ∀ a b : Value, ([((PySem.Str.ofString "self" : Str), a), (f, b)] : List (Str × Value)).reverse.lookup f = some b
  db : (f == ("__debug__" : Str)) = false
theorem ex_init (T : ExTxt prog K mg cn f C fI) (O : FldOk f)
    {x t0 : Addr} {v : Value} (X : K.In s.heap) (hlim : s.heap.NoLimit) (hG : s.heap.Ns mainGlobals mg) (hB : s.heap.Ns builtinsNs mb) (hmb : mb "super" = some (.type "super")) (hx : s.heap.get? x = some (HandSPX.excO C t0)) (hnx : K.lookup x = none) (hroom : A.depth < recursionLimit)
    (hq : ∀ h' tk dx t1, InitEnd s.heap h' x C dx t1 f v → R (.ok (.ret .none)) { s with heap := h', toks := tk }) : codeAny (model prog w) A (.call (.ref fI) ⟨[.ref x, v], []⟩) R s := by
  obtain ⟨q, oc, od, doc, pm, an, cda, cc, ct, osl, p1, p2, a1, a2, a3, a4, a5, a6, b1, b2, b3, b4, lk, hl, hcd, ⟨ccl, cdd, vs, ccs, file, tf, hcode, hvs, hfile⟩, cl, cld, csl, hcell⟩ := T.fn
  obtain ⟨nm, qn, N, bs, bm, sn, sub, ab, col, dd, k0, k1, k2, k3, k5, hC, htl, hal⟩ := T.cls
  have hD : clsIn K C = some { name := nm, bases := bs, mro := .ref C :: bm, ns := N, qualname := qn, hasDict := true, slotNames := sn, subclasses := sub, abstract := ab, collection := col, hasDel := false } := by unfold clsIn; rw [hC] <;> rfl
  have hov : excOver K C exB = true := by
    unfold excOver
    rw [hD]
    show (C == C && excTail exB bm) = true
    rw [htl]
    simp
  have hcel : ∀ y ∈ (inScope f).names, y.2 ≠ .cell := by
    intro y hy
    simp only [inScope, List.mem_cons, List.not_mem_nil, or_false] at hy
    rcases hy with rfl | rfl | rfl | rfl <;> (intro z; cases z)
  have hloc : ∀ y ∈ ([((PySem.Str.ofString "self" : Str), Value.ref x), (f, v)] : List (Str × Value)), (inScope f).names.lookup y.1 = some .local := by
    intro y hy
    simp only [List.mem_cons, List.not_mem_nil, or_false] at hy
    rcases hy with rfl | rfl
    · exact O.kI
    · exact O.kF
  refine ks_codeAny_call_defAt (fd := fnX "__init__" q (inArgs f p1 p2) (inBody f a1 a2 a3 a4 a5 a6 b1 b2 b3 b4) (inScope f) [("__class__", cc)] .none .none doc pm an (.ref cda) ct) (binds := [((PySem.Str.ofString "self" : Str), .ref x), (f, v)]) hroom (X _ _ lk) rfl hlim (codeRec_of X hcd) rfl (.of_eq (O.bd _ _ _ _ _ _ _ _ _ _ _ _ _)) hcel hloc (fun h₁ hn k => ?_)
  obtain ⟨hp, g, d, t, os⟩ := s
  have X₁ : K.In h₁ := X.keeps k
  have G₁ := hG.keeps k
  have B₁ := hB.keeps k
  have hx₁ := k _ _ hx
  have hD₁ : ∃ oD, h₁.get? C = some oD ∧ oD.data = .cls { name := nm, bases := bs, mro := .ref C :: bm, ns := N, qualname := qn, hasDict := true, slotNames := sn, subclasses := sub, abstract := ab, collection := col, hasDel := false } := ⟨_, X₁ _ _ hC, rfl⟩
  obtain ⟨oD, hD1, hD2⟩ := hD₁
  have I₁ : InstAt h₁ x (HandSPX.excO C t0) C none := ⟨hx₁, rfl, rfl, trivial⟩
  -- super().__init__(f)
  refine ks_wpAt_execs_cons (ks_wpAt_Expr_any (ks_wpAt_MethodCall (pl := ?pl) ?_ ?he) rfl rfl)
  case he =>
    show (do
      let ov ← attributeBase _ _ _ _
      standAt a3.atName
      methodCall _ _ a3 a5 _ ov _ _ _) = _
    simp only [methodCall, methodCallPos, hl, Bool.or_true, if_true, pure_bind]
    rfl
  refine ks_wpAt_super_base (env := envX q (inScope f) hp.objs.size fI (.ref cda) [("__class__", cc)]) O.kS O.kC (by decide +kernel) rfl (X₁ _ _ lk) rfl rfl rfl (X₁ _ _ hcode) rfl hvs hfile T.top ?_
  refine ks_loadName_global rfl O.kS (Calls.loadGlobal_builtin (env := envX q (inScope f) hp.objs.size fI (.ref cda) [("__class__", cc)]) G₁ T.nS B₁ hmb ⟨rfl, ?_⟩)
  refine wpAny_loadName_free rfl O.kC rfl ⟨_, X₁ _ _ hcell, rfl⟩ ?_
  refine wpAny_loadName_local rfl O.kI hn (O.mI _ _) ?_
  refine ks_wpAny_isType_cls hD1 hD2 ⟨rfl, ?_⟩
  refine ks_wpAny_call_super hD1 hD2 hx₁ rfl (fun c e => by cases e) (looks_mroIn X₁ T.sC) (fun h₂ e₂ k₂ => ?_)
  have X₂ : K.In h₂ := X₁.keeps k₂
  have hx₂ := k₂ _ _ hx₁
  have hxC : x ≠ C := by
    intro z
    subst z
    rw [X₂ _ _ hC] at hx₂
    cases hx₂
  refine ESX.getMethod_super e₂ (looks_opaque X₂ T.op) ((looks_clsIn X₂ hD).andThen .now) (l₀ := .ref C :: bm) (ESX.drop_own C bm) X₂ hal hxC (by decide +kernel) ?_ ?_
  · exact (show InstAt h₂ x (HandSPX.excO C t0) C none from ⟨hx₂, rfl, rfl, trivial⟩).type.andThen (looks_subIn X₂ T.exE)
  have lt₂ : h₁.objs.size < h₂.objs.size := Heap.lt_size e₂
  have k₃ : ∀ b o, h₂.get? b = some o → (h₂.push (ESX.bw x)).get? b = some o := fun b o e => Heap.get?_push_of_some _ e
  have nL : ∀ {h' : Heap}, (∀ b o, h₁.get? b = some o → h'.get? b = some o) → h'.Ns hp.objs.size (fun y => ([((PySem.Str.ofString "self" : Str), Value.ref x), (f, v)] : List (Str × Value)).reverse.lookup y) := fun k' => hn.keeps k'
  have n₃ := nL (fun b o e => k₃ b o (k₂ b o e))
  refine ESX.callWith_bound (x := x) (Calls.spliced_cons (ESX.ldL n₃ (O.mF _ _) (Calls.spliced_nil ⟨Heap.get?_push_size _ rfl, ?_⟩) rfl O.kF O.db)) rfl rfl
  have X₃ : K.In (h₂.push (ESX.bw x)) := X₂.keeps k₃
  refine ESX.call_bw (X₃ _ _ hC) (k₃ _ _ hx₂) (Heap.get?_push_size _ rfl) (by rw [sizeLine_eq]; exact (show 1 ≤ 16777216 by decide)) (fun h₄ t₁ k₄ hx₄ => ?_)
  have kx : ∀ {b : Addr} {o : Obj}, K.lookup b = some o → b ≠ x := fun {b o} e z => by rw [z, hnx] at e; cases e
  have X₄ : K.In h₄ := fun b o e => k₄ b o (kx e) (X₃ b o e)
  have xL : hp.objs.size ≠ x := Nat.ne_of_gt (Heap.lt_size (show hp.get? x = some _ from hx))
  have n₄ : h₄.Ns hp.objs.size (fun y => ([((PySem.Str.ofString "self" : Str), Value.ref x), (f, v)] : List (Str × Value)).reverse.lookup y) := by
    obtain ⟨o, es, ep, ho, r⟩ := n₃
    exact ⟨o, es, ep, k₄ _ _ xL ho, r⟩
  -- self.f = f
  refine ks_wpAt_execs_cons (ks_wpAt_Assign_Attr (wpAt_of_wpAny (ESX.ldL n₄ (O.mF _ _) (ESX.ldL n₄ (O.mI _ _) ?_ rfl O.kI (by decide +kernel)) rfl O.kF O.db)) rfl)
  refine set_plain X₄ (ox := HandSPX.excO C t₁) (od := none) ⟨hx₄, rfl, rfl, trivial⟩ T.sa ?_
  refine set_new X₄ hx₄ hD hov rfl T.tk (fun h₅ tk₅ dx k₅ dn dne hx₅ hn₅ => ?_)
  refine wpAt_of_wpAny (wpAny_execs_nil ?_)
  have old : ∀ b o, b ≠ x → hp.get? b = some o → h₅.get? b = some o := fun b o hb e => k₅ b o hb (k₄ b o hb (k₃ b o (k₂ b o (k b o e))))
  have big : hp.objs.size ≤ dx := by
    have z1 : hp.objs.size < h₁.objs.size := hn.lt
    have q : (h₂.push (ESX.bw x)).get? h₂.objs.size = some (ESX.bw x) := Heap.get?_push_size _ rfl
    have nx : h₂.objs.size ≠ x := Nat.ne_of_gt (Heap.lt_size hx₂)
    have z3 : h₂.objs.size < h₄.objs.size := Heap.lt_size (k₄ _ _ nx q)
    have z4 : h₄.objs.size ≤ dx := dn
    omega
  exact hq h₅ tk₅ dx t₁ ⟨old, hx₅, big, dne, hn₅⟩
end
end PX
namespace PX
open PySem PySem.W Builtin Builtin.ObjectAttr
structure Made (h h' : Heap) (e C d : Addr) (f : Str) (v : Value) : Prop where
  keep : ∀ b o, h.get? b = some o → h'.get? b = some o
  new : h.objs.size ≤ e
  obj : ∃ oe vs, h'.get? e = some oe ∧ oe.cls = .ref C ∧ oe.dict = some d ∧ oe.data = .fields vs ∧ vs[1]? = some .none
  dbig : h.objs.size ≤ d
  dne : d ≠ e
  ns : h'.Ns1 d (fun y => if y = f then some v else none)
section
variable {prog : Program} {w : World} {A : Around} {R : Result → Shared → Prop} {s : Shared} {K : Frag} {mg mb : Str → Option Value} {cn f : Str} {C fI : Addr}
theorem ex_made (T : ExTxt prog K mg cn f C fI) (O : FldOk f) {v : Value} (X : K.In s.heap) (hlim : s.heap.NoLimit) (hG : s.heap.Ns mainGlobals mg) (hB : s.heap.Ns builtinsNs mb) (hmb : mb "super" = some (.type "super")) (hroom : A.depth + 1 < recursionLimit)
    (hq : ∀ h' tk e d, Made s.heap h' e C d f v → R (.ok (.ret (.ref e))) { s with heap := h', toks := tk }) : codeAny (model prog w) A (.call (.ref C) ⟨[v], []⟩) R s := by
  obtain ⟨nm, qn, N, bs, bm, sn, sub, ab, col, dd, k0, k1, k2, k3, k5, hC, htl, hal⟩ := T.cls
  obtain ⟨hp, g, dr, tk, os⟩ := s
  have k : ∀ b o, hp.get? b = some o → ((hp.push (kdv_tup [v])).push (HandSPX.excO C hp.objs.size)).get? b = some o := fun b o e => Heap.get?_push_of_some _ (Heap.get?_push_of_some _ e)
  have hget : ((hp.push (kdv_tup [v])).push (HandSPX.excO C hp.objs.size)).get? (hp.objs.size + 1) = some (HandSPX.excO C hp.objs.size) := by heap_get
  have hnx : K.lookup (hp.objs.size + 1) = none := by
    cases e : K.lookup (hp.objs.size + 1) with
    | none => rfl
    | some o => exact absurd (Nat.lt_of_succ_lt (Heap.lt_size (X _ _ e))) (Nat.lt_irrefl _)
  refine HandSPX.call_own F.excBase_Exception (fun Y => excTail_contains Y bm htl) (X _ _ hC) (looks_findIn X T.iC) (fun self => bind_fn X self T.tC) (by rw [sizeLine_eq]; exact (show 1 ≤ 16777216 by decide)) ?_
  refine ex_init (s := ⟨(hp.push (kdv_tup [v])).push (HandSPX.excO C hp.objs.size), g, dr, tk, os⟩) T O (X.keeps k) (hlim.keeps k) (hG.keeps k) (hB.keeps k) hmb hget hnx (show A.depth + 1 < recursionLimit from hroom) fun h' tk' dx t1 ⟨k', hx, dn, dne, hns⟩ => ?_
  have old : ∀ b o, hp.get? b = some o → h'.get? b = some o := fun b o e => k' b o (Nat.ne_of_lt (Nat.lt_succ_of_lt (Heap.lt_size e))) (k b o e)
  have z : hp.objs.size ≤ dx := by
    have q : ((hp.push (kdv_tup [v])).push (HandSPX.excO C hp.objs.size)).objs.size ≤ dx := dn
    rw [Heap.size_push, Heap.size_push] at q
    omega
  exact ⟨rfl, hq h' tk' (hp.objs.size + 1) dx ⟨old, Nat.le_succ _, ⟨_, _, hx, rfl, rfl, rfl, rfl⟩, z, dne, hns⟩⟩
end
end PX
namespace PL
open PySem PySem.Spec L2
section
variable {X : Cx} {W : WX} {cn f : Str} {C fI : Addr}
theorem relO_one {v : V} {v' : Value} (r : RelV v v') (f g : Str) : RelO (List.lookup g [(f, v)]) (if g = f then some v' else none) := by
  by_cases hg : g = f
  · subst hg
    rw [if_pos rfl, List.lookup_cons, beq_self_eq_true]
    exact r
  · rw [if_neg hg, List.lookup_cons, beq_false_of_ne hg]
    trivial
/-- cn(e) -/
def tMk (C : Addr) (f : Str) (ta : TA) : St → Hp → XK → Prop := fun σ H Q => ta σ H fun vs H1 => ∃ v, vs = [v] ∧ ∀ d, H1 d = none → Q (.ref C) (some d) (upd H1 d (.xd [(f, v)]))
theorem pmk_ex {a : Expr} {ta : TA} {p pos : Pos} (T : PX.ExTxt X.prog X.K X.mg cn f C fI) (O : PX.FldOk f) (hd : X.A.depth + 5 < recursionLimit) (ha : PA X [a] ta) (hg : Gl X cn) (hdb : (cn == ("__debug__" : Str)) = false)
    (he : starEach (a :: []) X.env = (false, eval a X.env) :: starEach [] X.env) : PMk X (.Call (.Name cn p) [a] [] pos) (tMk C f ta) := by
  intro pins s σ H Q I h
  refine wpAny_Call_Name_kw (ld_glob I hg T.gC ?_ hdb)
  refine PySem.W.callWith_K (h₀ := X.base) I.ok.mod.kin T.kC (thn (ha.run pos pins s σ H _ I h) fun us s1 hh => ?_) he rfl
  obtain ⟨vs, H1, I1, r1, v, ev, q1⟩ := hh
  subst ev
  refine ⟨I1.kIn, ?_⟩
  cases r1 with
  | cons rv rn =>
    rename_i v' us'
    cases rn
    show wpAny _ _ (call (.ref C) [v']) _ _ _
    have hlim := I1.nolimit
    have hG := I1.mod.glob.keeps I1.bk
    obtain ⟨mb, hB, hmb⟩ := I1.mod.blt
    have hB' := hB.keeps I1.bk
    obtain ⟨hp, g, dr, tk, os⟩ := s1
    refine wpAny_call (PX.ex_made T O I1.kIn hlim hG hB' ((hmb _ (by decide)).trans (by decide +kernel)) (by omega) fun h' tk' e d M => ?_)
    show MkP X pins σ Q (.ref e) ⟨h', g, dr, tk', os⟩
    obtain ⟨oe, fv, hoe, hc, hd, hdat, h1⟩ := M.obj
    have hns := M.ns
    obtain ⟨G', g1, g2⟩ := restrict h' fun b => decide (b ≠ e)
    have gk : ∀ b, b ≠ e → G'.get? b = h'.get? b := fun b hb => g1 b (decide_eq_true hb)
    have ge : G'.get? e = none := g2 e (by simp)
    have old : ∀ b o, hp.get? b = some o → G'.get? b = some o := fun b o q => (gk b (Nat.ne_of_lt (Nat.lt_of_lt_of_le (Heap.lt_size q) M.new))).trans (M.keep b o q)
    have ob : ObjOk X.prog X.w (upd H1 d (.xd [(f, v)])) G' d (.xd [(f, v)]) := ⟨_, hns.at (fun o q => (gk d M.dne).trans q), fun g => relO_one rv f g⟩
    have J : L2.Inv X pins σ (upd H1 d (.xd [(f, v)])) ⟨G', g, dr, tk', os⟩ := I1.laid (t' := tk') old M.dbig ob
    refine ⟨e, oe, fv, ⟨G', g, dr, tk', os⟩, _, .ref C, some d, rfl, J, fun b o q => ?_, ge, hoe, ⟨hc, hd⟩, hdat, h1, ?_, rfl, I1.bare, raises_own T.exC T.tyC, q1 d (I1.hok.fresh M.dbig)⟩
    · by_cases hb : b = e
      · have q' : G'.get? b = some o := q
        rw [hb, ge] at q'; cases q'
      · exact (gk b hb).symm.trans q
    · rw [upd_ne (Ne.symm M.dne)]
      exact I1.hok.fresh M.new
/-- raise cn(e) -/
def sRaise (cn f : Str) (w : WA) : WS := fun P X env S => w env S (fun ds S' => match ds with
  | [d] => X ⟨cn, [(f, d)]⟩ env S'
  | _ => False) (fun x S' => X x env S')
theorem is_raise {a : Expr} {w : WA} {p pos pos2 : Pos} (T : PX.ExTxt X.prog X.K X.mg cn f C fI) (O : PX.FldOk f) (hd : X.A.depth + 5 < recursionLimit) (hc : X.calm = true) (tk : Takes X W) (ha : IA X W [a] w) (hg : Gl X cn) (hdb : (cn == ("__debug__" : Str)) = false)
    (he : starEach (a :: []) X.env = (false, eval a X.env) :: starEach [] X.env) : IS X W (.Raise (some (.Call (.Name cn p) [a] [] pos)) none pos2) (sRaise cn f w) :=
  (ps_raise hc tk (pmk_ex T O hd ha hg hdb he)).of fun D σ H ⟨env, S, P, x, re, rs, h, hq, hx⟩ => ⟨env, S, _, _, re, rs, h, fun ds S' vs H' p l e1 r1 s1 => by
    match ds, p with
    | [d], p =>
      obtain ⟨v, rfl, r⟩ := rl1 r1
      refine ⟨v, rfl, fun dd nd => hx _ env S' _ _ σ _ p (e1.trans (Ext.new nd)) ((re.ext e1).ext (Ext.new nd)) ⟨?_, dd, [(f, v)], rfl, upd_same, rfl, .cons (r.ext (Ext.new nd)) .nil⟩ (s1.new nd)⟩
      show (match X.mg cn with
        | some v => some v
        | none => bootBuiltins cn) = some (.ref C)
      rw [T.gC], hx.at re⟩
end
end PL
namespace PL
open PySem PySem.Spec L2
/-! ### try: .. except C as e: return .. -/
theorem RepX.ext {K : PySem.W.Frag} {mg : Str → Option Value} {H H' : Hp} {cls : Value} {d : Option Addr} {x : XD} (r : RepX K mg H cls d x) (e : Ext H H') : RepX K mg H' cls d x := by
  obtain ⟨r1, r2⟩ := r
  refine ⟨r1, ?_⟩
  cases hf : x.fs with
  | nil => rw [hf] at r2; exact r2
  | cons p q =>
    rw [hf] at r2
    obtain ⟨dd, fv, a, b, c, t⟩ := r2
    exact ⟨dd, fv, a, e.xd _ _ b, c, t.ext e⟩
/-- what the written part says of the error classes named in T; sub: which is derived from which -/
structure ClsIn (X : Cx) (T : List Str) (sub : Str → Str → Bool) : Prop where
  cls : ∀ n ∈ T, ∃ C, X.mg n = some (.ref C) ∧ ExcC X.K C ∧ PySem.W.typeIn X.K (.ref C) = some (.type "type")
  isa : ∀ n ∈ T, ∀ m ∈ T, ∀ C D, X.mg n = some (.ref C) → X.mg m = some (.ref D) → PySem.W.subIn X.K (.ref C) (.ref D) = some (sub n m) ∧ PySem.W.kitOne X.K (.ref C) (.ref D) = some (sub n m)
def FldIn (X : Cx) (T : List Str) (f : Str) : Prop := ∀ n ∈ T, ∀ C, X.mg n = some (.ref C) → PySem.W.findIn X.K (.ref C) f = some none
theorem ExcC.xfc {K : PySem.W.Frag} {C : Addr} (h : ExcC K C) : XfC K C := ⟨h.hg, h.hk, h.hs, h.hd⟩
/-- .. and what may change stands as it was -/
structure ExtS (K : PySem.W.Frag) (H H' : Hp) : Prop where
  ext : Ext H H'
  sto : ∀ S, RepS K H S → RepS K H' S
theorem ExtS.refl (K : PySem.W.Frag) (H : Hp) : ExtS K H H := ⟨Ext.refl H, fun _ h => h⟩
theorem ExtS.trans {K : PySem.W.Frag} {H H1 H2 : Hp} (a : ExtS K H H1) (b : ExtS K H1 H2) : ExtS K H H2 := ⟨a.ext.trans b.ext, fun S h => b.sto S (a.sto S h)⟩
theorem ExtS.new {K : PySem.W.Frag} {H : Hp} {p : Addr} {o : HO} (h : H p = none) : ExtS K H (upd H p o) := ⟨Ext.new h, fun _ r => r.new h⟩
def dOk (H : Hp) (d : Option Addr) : Prop := ∀ dd, d = some dd → ∃ fs, H dd = some (.xd fs)
section
variable (K : PySem.W.Frag) (mg : Str → Option Value) (T : List Str) (a : Addr) (cls : Value) (d : Option Addr) (i : Option Nat)
abbrev FX := XD → Option D
def tX (f : FX) : TE := fun σ H Q => ∃ x y, RepX K mg H cls d x ∧ x.cls ∈ T ∧ (∀ j : Nat, i = some j → σ[j]? = some (some (.ref a))) ∧ f x = some y ∧ ∀ v H', ExtS K H H' → Rep K H' v y → Q v H'
def tXB (f : XD → Option Bool) : TT := fun σ H Q => ∃ x y, RepX K mg H cls d x ∧ x.cls ∈ T ∧ (∀ j : Nat, i = some j → σ[j]? = some (some (.ref a))) ∧ f x = some y ∧ ∀ H', ExtS K H H' → Q y H'
def tXA (f : XD → Option (List D)) : TA := fun σ H Q => ∃ x ys, RepX K mg H cls d x ∧ x.cls ∈ T ∧ (∀ j : Nat, i = some j → σ[j]? = some (some (.ref a))) ∧ f x = some ys ∧ ∀ vs H', ExtS K H H' → RepL K H' vs ys → Q vs H'
end
/-- an expression in the suite -/
abbrev IX (X : Cx) (T : List Str) (i : Option Nat) (e : Expr) (f : FX) : Prop := ∀ (a : Addr) (oe : Obj) (cls : Value) (d : Option Addr) (pn : List (Addr × Obj)), Zc cls d oe → (∃ vs, oe.data = .fields vs) → PE (X.suite a ((a, oe) :: pn)) e (tX X.K X.mg T a cls d i f)
abbrev IXB (X : Cx) (T : List Str) (i : Option Nat) (e : Expr) (f : XD → Option Bool) : Prop := ∀ (a : Addr) (oe : Obj) (cls : Value) (d : Option Addr) (pn : List (Addr × Obj)), Zc cls d oe → (∃ vs, oe.data = .fields vs) → PT (X.suite a ((a, oe) :: pn)) e (tXB X.K X.mg T a cls d i f)
abbrev IXA (X : Cx) (T : List Str) (i : Option Nat) (es : List Expr) (f : XD → Option (List D)) : Prop := ∀ (a : Addr) (oe : Obj) (cls : Value) (d : Option Addr) (pn : List (Addr × Obj)), Zc cls d oe → (∃ vs, oe.data = .fields vs) → PA (X.suite a ((a, oe) :: pn)) es (tXA X.K X.mg T a cls d i f)
section
variable {X : Cx} {T : List Str} {sub : Str → Str → Bool} {i : Option Nat} {k : Nat} {e c b : Expr} {es : List Expr} {f g : FX} {fb gb : XD → Option Bool} {fa : XD → Option (List D)} {pos p p2 : Pos} {n nm : Str}
def fC (y : D) : FX := fun _ => some y
theorem ix_int {k : Int} {j : Nat} : IX X T i (.Constant (.int k) j pos) (fC (.int k)) := fun a oe cls d pn hz hf => pe_int.of fun σ H Q ⟨x, y, rx, hm, hs, hy, hq⟩ => by cases hy; exact hq _ _ (ExtS.refl _ H) (.int k)
theorem ix_bl {k : Bool} {j : Nat} : IX X T i (.Constant (.bool k) j pos) (fC (.bl k)) := fun a oe cls d pn hz hf => pe_bl.of fun σ H Q ⟨x, y, rx, hm, hs, hy, hq⟩ => by cases hy; exact hq _ _ (ExtS.refl _ H) (.bl k)
theorem ix_non {j : Nat} : IX X T i (.Constant .none j pos) (fC .non) := fun a oe cls d pn hz hf => pe_non.of fun σ H Q ⟨x, y, rx, hm, hs, hy, hq⟩ => by cases hy; exact hq _ _ (ExtS.refl _ H) .non
theorem ix_str {k : Str} {j : Nat} : IX X T i (.Constant (.str k) j pos) (fC (.str k)) := fun a oe cls d pn hz hf => pe_str.of fun σ H Q ⟨x, y, rx, hm, hs, hy, hq⟩ => by cases hy; exact hq _ _ (ExtS.refl _ H) (.str k)
/-- e.fld -/
def fFld (fl : Str) : FX := fun x => x.fs.lookup fl
theorem lookup_rep {K : PySem.W.Frag} {H : Hp} {fl : Str} {y : D} : ∀ {fv : List (Str × V)} {fs : List (Str × D)}, fv.map (·.1) = fs.map (·.1) → RepL K H (fv.map (·.2)) (fs.map (·.2)) → fs.lookup fl = some y → ∃ v, fv.lookup fl = some v ∧ Rep K H v y
  | _, [], _, _, h => by simp at h
  | [], _ :: _, h, _, _ => by simp at h
  | (k, v) :: fv, (k2, y2) :: fs, h1, .cons r t, h => by
    simp only [List.map_cons, List.cons.injEq] at h1
    obtain ⟨rfl, h1⟩ := h1
    rw [List.lookup_cons] at h ⊢
    cases hk : fl == k with
    | true =>
      simp only [hk] at h
      cases h
      exact ⟨v, rfl, r⟩
    | false =>
      simp only [hk] at h
      exact lookup_rep h1 t h
theorem ix_fld {fl : Str} (C : ClsIn X T sub) (F : FldIn X T fl) (hN : X.N[k]? = some nm) (hv : Vis X.env.scope nm) (hd : (nm == ("__debug__" : Str)) = false) (hcd : (nm == ("__classdict__" : Str)) = false) (hb : attributeBase (.Name nm p) fl X.env (eval (.Name nm p) X.env) = eval (.Name nm p) X.env) : IX X T (some k) (.Attribute (.Name nm p) fl pos) (fFld fl) := by
  intro a oe cls d pn hz hf
  refine ⟨fun pins s σ H Q I ⟨x, y, rx, hm, hs, hy, hq⟩ => ?_⟩
  obtain ⟨C0, g0, x0, t0⟩ := C.cls _ hm
  have ecls : cls = .ref C0 := by
    have q := rx.1
    unfold clsV at q
    rw [g0] at q
    exact (Option.some.inj q).symm
  have r2 := rx.2
  cases hfs : x.fs with
  | nil => rw [fFld, hfs] at hy; cases hy
  | cons k0 kr =>
    rw [hfs] at r2
    obtain ⟨dd, fv, e1, e2, e3, e4⟩ := r2
    obtain ⟨v, ev, rv⟩ := lookup_rep e3 e4 (by rw [← hfs]; exact hy)
    exact (pe_xf (ExcC.xfc x0) (F _ hm _ g0) hz hf (pe_var hN hv hd hcd) hb).run pins s σ H Q I ⟨.ref a, hs k rfl, rfl, ecls, dd, fv, v, e1, e2, ev, hq v H (ExtS.refl _ H) rv⟩
/-- isinstance(e, m) -/
def fIs (sub : Str → Str → Bool) (m : Str) : XD → Option Bool := fun x => some (sub x.cls m)
def fBl (f : XD → Option Bool) : FX := fun x => (f x).map D.bl
theorem call_isx {a C : Addr} {oe : Obj} {d : Option Addr} {pn : List (Addr × Obj)} (E : ExcC X.K C) (hz : Zc (.ref C) d oe) (hf : ∃ vs, oe.data = .fields vs) : CallR (X.suite a ((a, oe) :: pn)) (.builtin "isinstance")
    (fun xs H Q => ∃ (D : Addr) (b : Bool), xs = [.ref a, .ref D] ∧ dOk H d ∧ PySem.W.kitOne X.K (.ref C) (.ref D) = some b ∧ Q (.bl b) H) := by
  intro pins s σ H xs us Q I r ⟨D, b, ex, hd, hk, q⟩
  subst ex
  obtain ⟨u, w', rfl, ru, rw'⟩ := vals2 r
  have eu : u = .ref a := ru
  have ew : w' = .ref D := rw'
  subst eu; subst ew
  obtain ⟨ha, _⟩ := I.pin (a, oe) (List.mem_append_left _ List.mem_cons_self)
  obtain ⟨vs, hdat⟩ := hf
  have hcl : (PySem.W.clsIn X.K C).isSome = true := by
    obtain ⟨cd, hc, _⟩ := PySem.W.any_some E.hd
    rw [hc]; rfl
  have J : ∃ od, PySem.W.InstAt s.heap a oe C od := by
    cases d with
    | none => exact ⟨none, ha, hz.1, by unfold PySem.W.notCls; rw [hdat] <;> rfl, by rw [hz.2]; trivial⟩
    | some dd =>
      obtain ⟨fs, hx⟩ := hd dd rfl
      have ok : ObjOk X.prog X.w H s.heap dd (.xd fs) := I.hok dd _ hx
      obtain ⟨mA, hns, _⟩ := ok
      obtain ⟨od, ho, _⟩ := lookIn_ns hns
      exact ⟨some od, ha, hz.1, by unfold PySem.W.notCls; rw [hdat] <;> rfl, by rw [hz.2]; exact ho⟩
  obtain ⟨od, J⟩ := J
  exact PySem.W.kia_one (PySem.W.kitx_exc hcl E.hg E.hk E.hs E.ha E.hn E.ht E.hm) I.kIn J hk (by intro z; cases z) fun tk => ⟨.bl b, H, I.tok _, rfl, q⟩
theorem rx_dict {K : PySem.W.Frag} {mg : Str → Option Value} {H : Hp} {cls : Value} {d : Option Addr} {x : XD} (r : RepX K mg H cls d x) : dOk H d := by
  intro dd hd
  have r2 := r.2
  cases hf : x.fs with
  | nil => rw [hf] at r2; rw [r2] at hd; cases hd
  | cons p q =>
    rw [hf] at r2
    obtain ⟨d2, fv, e1, e2, _⟩ := r2
    rw [hd] at e1
    cases e1
    exact ⟨fv, e2⟩
theorem isx_run {m : Str} {j : Nat} (C : ClsIn X T sub) (hm : m ∈ T) (hg : Gl X m) (hgi : Gl X "isinstance") (hmi : X.mg "isinstance" = none) (hN : X.N[k]? = some nm) (hv : Vis X.env.scope nm) (hd : (nm == ("__debug__" : Str)) = false) (hcd : (nm == ("__classdict__" : Str)) = false) (hdm : (m == ("__debug__" : Str)) = false) (a : Addr) (oe : Obj) (cls : Value) (d : Option Addr) (pn : List (Addr × Obj)) (hz : Zc cls d oe) (hf : ∃ vs, oe.data = .fields vs)
    {pf pc : Pos} (he : starEach [.Name nm p, .Name m p2] X.env = (false, eval (.Name nm p) X.env) :: starEach [.Name m p2] X.env) (he2 : starEach [.Name m p2] X.env = (false, eval (.Name m p2) X.env) :: starEach [] X.env) (hpl : (backTo pc (starEach [.Name m p2] X.env)).any (·.1) = false) :
    PE (X.suite a ((a, oe) :: pn)) (.Call (.Name "isinstance" pf) [.Name nm p, .Name m p2] [] pc) (tX X.K X.mg T a cls d (some k) (fBl (fIs sub m))) := by
  refine ⟨fun pins s σ H Q I ⟨x, y, rx, hx, hs, hy, hq⟩ => ?_⟩
  obtain ⟨C0, g0, x0, t0⟩ := C.cls _ hx
  obtain ⟨D0, gD, xD, tD⟩ := C.cls _ hm
  have ecls : cls = .ref C0 := by
    have q := rx.1
    unfold clsV at q
    rw [g0] at q
    exact (Option.some.inj q).symm
  subst ecls
  have eu : (⟨.ref D0, rfl⟩ : ∃ u : Value, u = .ref D0) = ⟨.ref D0, rfl⟩ := rfl
  refine (pe_callB (call_isx x0 hz hf) hgi hmi (by decide +kernel) (pa_cons (pe_var hN hv hd hcd) (pa_cons (pe_glob (v := .ref D0) hg gD rfl hdm) pa_nil he2) he) (by decide) (by decide) he hpl).run pins s σ H Q I ⟨.ref a, hs k rfl, ?_⟩
  refine ⟨D0, sub x.cls m, rfl, rx_dict rx, (C.isa _ hx _ hm _ _ g0 gD).2, ?_⟩
  cases hy
  exact hq _ H (ExtS.refl _ H) (.bl _)
theorem ix_is {m : Str} {pf pc : Pos} (C : ClsIn X T sub) (hm : m ∈ T) (hg : Gl X m) (hgi : Gl X "isinstance") (hmi : X.mg "isinstance" = none) (hN : X.N[k]? = some nm) (hv : Vis X.env.scope nm) (hd : (nm == ("__debug__" : Str)) = false) (hcd : (nm == ("__classdict__" : Str)) = false) (hdm : (m == ("__debug__" : Str)) = false)
    (he : starEach [.Name nm p, .Name m p2] X.env = (false, eval (.Name nm p) X.env) :: starEach [.Name m p2] X.env) (he2 : starEach [.Name m p2] X.env = (false, eval (.Name m p2) X.env) :: starEach [] X.env) (hpl : (backTo pc (starEach [.Name m p2] X.env)).any (·.1) = false) :
    IX X T (some k) (.Call (.Name "isinstance" pf) [.Name nm p, .Name m p2] [] pc) (fBl (fIs sub m)) := fun a oe cls d pn hz hf => isx_run C (j := 0) hm hg hgi hmi hN hv hd hcd hdm a oe cls d pn hz hf he he2 hpl
/-- a bool as a test -/
theorem ixb_of (h : IX X T i e (fBl fb)) (he : ∀ (env : PySem.Env) whole, isTrue e env whole = (do let v ← whole; standAt e.pos; holding [v] (truthy v))) : IXB X T i e fb := fun a oe cls d pn hz hf =>
  (pt_val (h a oe cls d pn hz hf) (fun w => he _ w)).of fun σ H Q ⟨x, y, rx, hm, hs, hy, hq⟩ => ⟨x, .bl y, rx, hm, hs, by unfold fBl; rw [hy]; rfl, fun v H' e1 r => by cases r; exact ⟨y, rfl, hq H' e1⟩⟩
def fNotB (f : XD → Option Bool) : XD → Option Bool := fun x => (f x).map (!·)
def fAndB (f g : XD → Option Bool) : XD → Option Bool := fun x => match f x with
  | some true => g x
  | some false => some false
  | none => none
def fOrB (f g : XD → Option Bool) : XD → Option Bool := fun x => match f x with
  | some true => some true
  | some false => g x
  | none => none
theorem ixb_not (h : IXB X T i e fb) : IXB X T i (.UnaryOp .Not e pos) (fNotB fb) := fun a oe cls d pn hz hf =>
  (pt_not (h a oe cls d pn hz hf)).of fun σ H Q ⟨x, y, rx, hm, hs, hy, hq⟩ => by
    cases hy' : fb x with
    | none => unfold fNotB at hy; rw [hy'] at hy; cases hy
    | some k =>
      unfold fNotB at hy
      rw [hy'] at hy
      cases hy
      exact ⟨x, k, rx, hm, hs, hy', fun H' e1 => hq H' e1⟩
theorem ixb_and (h : IXB X T i e fb) (h2 : IXB X T i c gb) : IXB X T i (.BoolOp .And [e, c] pos) (fAndB fb gb) := fun a oe cls d pn hz hf =>
  (PW.pt (pw_and (h a oe cls d pn hz hf) (pw_and1 (h2 a oe cls d pn hz hf)))).of fun σ H Q ⟨x, y, rx, hm, hs, hy, hq⟩ => by
    unfold fAndB at hy
    cases hy' : fb x with
    | none => rw [hy'] at hy; cases hy
    | some k =>
      rw [hy'] at hy
      cases k with
      | true => exact ⟨x, true, rx, hm, hs, hy', fun H' e1 => ⟨x, y, rx.ext e1.ext, hm, hs, hy, fun H2 e2 => hq H2 (e1.trans e2)⟩⟩
      | false => cases hy; exact ⟨x, false, rx, hm, hs, hy', fun H' e1 => hq H' e1⟩
theorem ixb_or (h : IXB X T i e fb) (h2 : IXB X T i c gb) : IXB X T i (.BoolOp .Or [e, c] pos) (fOrB fb gb) := fun a oe cls d pn hz hf =>
  (PW.pt (pw_or (h a oe cls d pn hz hf) (pw_or1 (h2 a oe cls d pn hz hf)))).of fun σ H Q ⟨x, y, rx, hm, hs, hy, hq⟩ => by
    unfold fOrB at hy
    cases hy' : fb x with
    | none => rw [hy'] at hy; cases hy
    | some k =>
      rw [hy'] at hy
      cases k with
      | false => exact ⟨x, false, rx, hm, hs, hy', fun H' e1 => ⟨x, y, rx.ext e1.ext, hm, hs, hy, fun H2 e2 => hq H2 (e1.trans e2)⟩⟩
      | true => cases hy; exact ⟨x, true, rx, hm, hs, hy', fun H' e1 => hq H' e1⟩
def fIf (t : XD → Option Bool) (f g : FX) : FX := fun x => match t x with
  | some true => f x
  | some false => g x
  | none => none
theorem ix_if (h : IXB X T i c fb) (h1 : IX X T i e f) (h2 : IX X T i b g) : IX X T i (.IfExp c e b pos) (fIf fb f g) := fun a oe cls d pn hz hf =>
  (pe_ifExp (h a oe cls d pn hz hf) (h1 a oe cls d pn hz hf) (h2 a oe cls d pn hz hf)).of fun σ H Q ⟨x, y, rx, hm, hs, hy, hq⟩ => by
    unfold fIf at hy
    cases hy' : fb x with
    | none => rw [hy'] at hy; cases hy
    | some k =>
      rw [hy'] at hy
      cases k with
      | true => exact ⟨x, true, rx, hm, hs, hy', fun H' e1 => ⟨x, y, rx.ext e1.ext, hm, hs, hy, fun v H2 e2 r => hq v H2 (e1.trans e2) r⟩⟩
      | false => exact ⟨x, false, rx, hm, hs, hy', fun H' e1 => ⟨x, y, rx.ext e1.ext, hm, hs, hy, fun v H2 e2 r => hq v H2 (e1.trans e2) r⟩⟩
/-- ==, - and + of what is told -/
def fEq (f g : FX) : FX := fun x => match f x, g x with
  | some (.int a), some (.int b) => some (.bl (decide (a = b)))
  | some (.str a), some (.str b) => some (.bl (decide (a = b)))
  | _, _ => none
def fNeg (f : FX) : FX := fun x => match f x with
  | some (.int a) => some (.int (-a))
  | _ => none
theorem ix_eq (h : IX X T i e f) (h2 : IX X T i c g) (hb : behindInMarks .Eq c = false) : IX X T i (.Compare e [.Eq] [c] pos) (fEq f g) := fun a oe cls d pn hz hf =>
  (pe_cmpR op_eq (h a oe cls d pn hz hf) (h2 a oe cls d pn hz hf) hb).of fun σ H Q ⟨x, y, rx, hm, hs, hy, hq⟩ => by
    unfold fEq at hy
    split at hy
    · rename_i u w e1 e2
      cases hy
      refine ⟨x, _, rx, hm, hs, e1, fun v H1 x1 r1 => ⟨x, _, rx.ext x1.ext, hm, hs, e2, fun v2 H2 x2 r2 => ?_⟩⟩
      cases r1; cases r2
      refine ⟨rfl, ?_⟩
      have e3 : decide (V.int u = V.int w) = decide (u = w) := by simp
      rw [e3]
      exact hq _ _ (x1.trans x2) (.bl _)
    · rename_i u w e1 e2
      cases hy
      refine ⟨x, _, rx, hm, hs, e1, fun v H1 x1 r1 => ⟨x, _, rx.ext x1.ext, hm, hs, e2, fun v2 H2 x2 r2 => ?_⟩⟩
      cases r1; cases r2
      refine ⟨rfl, ?_⟩
      have e3 : decide (V.str u = V.str w) = decide (u = w) := by simp
      rw [e3]
      exact hq _ _ (x1.trans x2) (.bl _)
    · cases hy
theorem ix_neg (h : IX X T i e f) : IX X T i (.UnaryOp .USub e pos) (fNeg f) := fun a oe cls d pn hz hf =>
  (pe_un un_neg (h a oe cls d pn hz hf)).of fun σ H Q ⟨x, y, rx, hm, hs, hy, hq⟩ => by
    unfold fNeg at hy
    split at hy
    · rename_i u e1
      cases hy
      refine ⟨x, _, rx, hm, hs, e1, fun v H1 x1 r1 => ?_⟩
      cases r1
      exact ⟨u, rfl, hq _ _ x1 (.int _)⟩
    · cases hy
def faNil : XD → Option (List D) := fun _ => some []
def faCons (f : FX) (g : XD → Option (List D)) : XD → Option (List D) := fun x => match f x, g x with
  | some y, some ys => some (y :: ys)
  | _, _ => none
theorem ixa_nil : IXA X T i [] faNil := fun a oe cls d pn hz hf => pa_nil.of fun σ H Q ⟨x, y, rx, hm, hs, hy, hq⟩ => by cases hy; exact hq _ _ (ExtS.refl _ H) .nil
theorem ixa_cons (h : IX X T i e f) (h2 : IXA X T i es fa) (hs : ∀ env : PySem.Env, starEach (e :: es) env = (false, eval e env) :: starEach es env) : IXA X T i (e :: es) (faCons f fa) := fun a oe cls d pn hz hf =>
  (pa_cons (h a oe cls d pn hz hf) (h2 a oe cls d pn hz hf) (hs _)).of fun σ H Q ⟨x, ys, rx, hm, hsl, hy, hq⟩ => by
    unfold faCons at hy
    cases e1 : f x with
    | none => rw [e1] at hy; cases hy
    | some y =>
      cases e2 : fa x with
      | none => rw [e1, e2] at hy; cases hy
      | some zs =>
        rw [e1, e2] at hy
        cases hy
        exact ⟨x, y, rx, hm, hsl, e1, fun v H1 x1 r1 => ⟨x, zs, rx.ext x1.ext, hm, hsl, e2, fun vs H2 x2 r2 => hq _ H2 (x1.trans x2) (.cons (r1.ext x2.ext) r2)⟩⟩
def fTup (g : XD → Option (List D)) : FX := fun x => match g x with
  | some ys => if ys.length ≤ 100 then some (.tup ys) else none
  | none => none
def fLst (g : XD → Option (List D)) : FX := fun x => match g x with
  | some ys => if ys.length ≤ 100 then some (.lst ys) else none
  | none => none
theorem le100 {n : Nat} (h : n ≤ 100) : n ≤ sizeLine := by rw [sizeLine_eq]; omega
theorem ix_tup {k : Nat} (h : IXA X T i es fa) : IX X T i (.Tuple es k pos) (fTup fa) := fun a oe cls d pn hz hf =>
  (pe_tup (h a oe cls d pn hz hf)).of fun σ H Q ⟨x, y, rx, hm, hsl, hy, hq⟩ => by
    unfold fTup at hy
    cases e2 : fa x with
    | none => rw [e2] at hy; cases hy
    | some ys =>
      simp only [e2] at hy
      split at hy
      · rename_i hl
        cases hy
        exact ⟨x, ys, rx, hm, hsl, e2, fun vs H1 x1 r1 => ⟨by rw [r1.length]; exact le100 hl, fun q nq => hq _ _ (x1.trans (ExtS.new nq)) (.tup (.of upd_same) (r1.ext (Ext.new nq)))⟩⟩
      · cases hy
theorem ix_lst (h : IXA X T i es fa) : IX X T i (.List es pos) (fLst fa) := fun a oe cls d pn hz hf => by
  refine ⟨fun pins s σ H Q I ⟨x, y, rx, hm, hsl, hy, hq⟩ => ?_⟩
  unfold fLst at hy
  cases e2 : fa x with
  | none => rw [e2] at hy; cases hy
  | some ys =>
    simp only [e2] at hy
    split at hy
    · rename_i hl
      cases hy
      refine thn ((pe_lst (h a oe cls d pn hz hf)).run pins s σ H (fun v H' => ∃ q vs H1, v = .ref q ∧ H1 q = none ∧ H' = upd H1 q (.lst vs) ∧ ExtS X.K H H1 ∧ RepL X.K H1 vs ys) I ⟨x, ys, rx, hm, hsl, e2, fun vs H1 x1 r1 => ⟨by rw [r1.length]; exact le100 hl, fun q nq => ⟨q, vs, H1, rfl, nq, rfl, x1, r1⟩⟩⟩) fun u s1 ⟨v, H', I', rv, q, vs, H1, ev, nq, eH, x1, r1⟩ => ?_
      subst ev; subst eH
      obtain ⟨ob, J⟩ := freeze I' upd_same
      rw [upd_upd] at J
      exact ⟨.ref q, _, J, rv, hq _ _ (x1.trans (ExtS.new nq)) (.lst (.inl ⟨ob, upd_same⟩) (r1.ext (Ext.new nq)))⟩
    · cases hy
/-- the whole: body in its own context, then the clause -/
def sTry (T : List Str) (sub : Str → Str → Bool) (m : Str) (i : Option Nat) (body : WS) (f : FX) : WS := fun P X env S => body P (fun x env' S' => x.cls ∈ T ∧ (∀ j, i = some j → j < env'.length) ∧ if sub x.cls m = true then (match f x with
  | some y => P.rt y S'
  | none => False) else X x env' S') env S
theorem exm_of {m n : Str} (C : ClsIn X T sub) (hn : n ∈ T) (hm : m ∈ T) {C0 D0 : Addr} (g0 : X.mg n = some (.ref C0)) (gD : X.mg m = some (.ref D0)) : PySem.W.exmOne X.K (.ref C0) (.ref D0) = some (sub n m) := by
  obtain ⟨D1, g1, xD, tD⟩ := C.cls _ hm
  rw [gD] at g1
  cases g1
  exact PySem.W.exm_ref xD.hs xD.hd tD (C.isa _ hn _ hm _ _ g0 gD).1
theorem try_wish {m : Str} {D0 : Addr} {σ : St} {H H0 : Hp} {P : EndD} {D : Ends} {Xo : XS} {Wo : WX} {x : XD} {env : Env} {S : Sto} {cls : Value} {d : Option Addr} (C : ClsIn X T sub) (hm : m ∈ T) (gD : X.mg m = some (.ref D0)) (rx : RepX X.K X.mg H cls d x) (hx : x.cls ∈ T) : ∃ C0, cls = .ref C0 ∧ PySem.W.exmOne X.K cls (.ref D0) = some (sub x.cls m) := by
  obtain ⟨C0, g0, x0, t0⟩ := C.cls _ hx
  have ecls : cls = .ref C0 := by
    have q := rx.1
    unfold clsV at q
    rw [g0] at q
    exact (Option.some.inj q).symm
  subst ecls
  exact ⟨C0, rfl, exm_of C hx hm g0 gD⟩
variable {W : WX} {body : List Stmt} {m : Str} {u : WS} {np : Pos}
theorem is_try_as (C : ClsIn X T sub) (hm : m ∈ T) (hs : X.stack = X.env :: X.outer) (hf : X.env.frame = some X.env.locals) (hN : X.N.Nodup) (hi : X.N[k]? = some nm) (hln : X.env.kindOf nm = some .local) (hg : Gl X m) (hdb : (m == ("__debug__" : Str)) = false) (tk : Takes X W)
    (hb : ∀ (W' : WX) (pn : List (Addr × Obj)) (xe : Value → Shared → Prop), Takes (X.tr pn xe) W' → PassesOwn (model X.prog X.w) X.A X.env xe → ISs (X.tr pn xe) W' body u) (he : IX X T (some k) e f) :
    IS X W (.Try body [.ExceptHandler (some (.Name m np)) (some nm) [.Return (some e) p] p2] [] [] pos) (sTry T sub m (some k) u f) := by
  obtain ⟨D0, gD, xD, tD⟩ := C.cls _ hm
  refine (ps_try_as (x := m) (c := .ref D0) (tb := fun W' => tS X.K X.mg W' u) (ts := fun a cls d => tRet (tX X.K X.mg T a cls d (some k) f)) hs hf hN hi hln ⟨hg, hdb, .inl gD⟩ tk hb (fun a oe cls d pn hz hfl => pss_one (ps_ret (he a oe cls d pn hz hfl)))).of fun D σ H ⟨env, S, P, x, re, rs, h, hq, hx⟩ => ?_
  refine ⟨env, S, P, _, re, rs, h, hq, fun y env' S' cls dd σ' H' hy e1 r1 rx s1 => ?_⟩
  obtain ⟨hT, hil0, hy⟩ := hy
  obtain ⟨C0, rfl, hex⟩ := try_wish (σ := σ) (H0 := H) (P := P) (D := D) (Xo := x) (Wo := W) (env := env) (S := S) C hm gD rx hT
  refine ⟨sub y.cls m, hex, fun hb a na => ?_, fun hb => ?_⟩
  · rw [if_pos hb] at hy
    cases ef : f y with
    | none => rw [ef] at hy; exact hy.elim
    | some z =>
      rw [ef] at hy
      have hil : k < σ'.length := by
        rw [r1.len]
        exact hil0 k rfl
      exact ⟨y, z, rx, hT, fun j hj => by cases hj; rw [List.getElem?_set_self hil], ef, fun v H2 e2 r2 => hq.rt z S' v H2 hy (e1.trans e2.ext) r2 (e2.sto S' s1)⟩
  · rw [if_neg (by rw [hb]; decide)] at hy
    exact hx y env' S' (.ref C0) dd σ' H' hy e1 r1 rx s1
theorem is_try (C : ClsIn X T sub) (hm : m ∈ T) (hs : X.stack = X.env :: X.outer) (hf : X.env.frame = some X.env.locals) (hg : Gl X m) (hdb : (m == ("__debug__" : Str)) = false) (tk : Takes X W)
    (hb : ∀ (W' : WX) (pn : List (Addr × Obj)) (xe : Value → Shared → Prop), Takes (X.tr pn xe) W' → PassesOwn (model X.prog X.w) X.A X.env xe → ISs (X.tr pn xe) W' body u) (he : IX X T none e f) :
    IS X W (.Try body [.ExceptHandler (some (.Name m np)) none [.Return (some e) p] p2] [] [] pos) (sTry T sub m none u f) := by
  obtain ⟨D0, gD, xD, tD⟩ := C.cls _ hm
  refine (ps_try_only (x := m) (c := .ref D0) (tb := fun W' => tS X.K X.mg W' u) (ts := fun a cls d => tRet (tX X.K X.mg T a cls d none f)) hs hf ⟨hg, hdb, .inl gD⟩ tk hb (fun a oe cls d pn hz hfl => pss_one (ps_ret (he a oe cls d pn hz hfl)))).of fun D σ H ⟨env, S, P, x, re, rs, h, hq, hx⟩ => ?_
  refine ⟨env, S, P, _, re, rs, h, hq, fun y env' S' cls dd σ' H' hy e1 r1 rx s1 => ?_⟩
  obtain ⟨hT, _, hy⟩ := hy
  obtain ⟨C0, rfl, hex⟩ := try_wish (σ := σ) (H0 := H) (P := P) (D := D) (Xo := x) (Wo := W) (env := env) (S := S) C hm gD rx hT
  refine ⟨sub y.cls m, hex, fun hb a na => ?_, fun hb => ?_⟩
  · rw [if_pos hb] at hy
    cases ef : f y with
    | none => rw [ef] at hy; exact hy.elim
    | some z =>
      rw [ef] at hy
      exact ⟨y, z, rx, hT, (fun j hj => by cases hj), ef, fun v H2 e2 r2 => hq.rt z S' v H2 hy (e1.trans e2.ext) r2 (e2.sto S' s1)⟩
  · rw [if_neg (by rw [hb]; decide)] at hy
    exact hx y env' S' (.ref C0) dd σ' H' hy e1 r1 rx s1
end
end PL
namespace PL
open PySem PySem.Spec L2
/-! ### chained comparisons -/
def wChain (o o' : O2) (wa wb wc : WE) : WE := fun env S P X => wa env S (fun x S1 => wb env S1 (fun y S2 => o x y S2 (fun z S3 => match z with
  | .bl k => if k = true then wc env S3 (fun w S4 => o' y w S4 P) X else P (.bl false) S3
  | _ => False)) X) X
section
variable {X : Cx} {W : WX} {a b c e : Expr} {wa wb wc : WE} {pos : Pos} {o o' : O2} {op op' : CmpOp}
abbrev rO (K : PySem.W.Frag) (o : O2) : R2 := fun x y H Q => ∃ dx dy S P, Rep K H x dx ∧ Rep K H y dy ∧ RepS K H S ∧ o dx dy S P ∧ okE K H P Q
theorem chain_of (σ : St) (H : Hp) (Q : VK) (h : tE X.K X.mg W (wChain o o' wa wb wc) σ H Q) : tChain (rO X.K o) (rO X.K o') (tE X.K X.mg W wa) (tE X.K X.mg W wb) (tE X.K X.mg W wc) σ H Q := by
  obtain ⟨env, S, P, PX, re, rs, h, hq, hx⟩ := h
  refine ⟨env, S, _, PX, re, rs, h, fun d1 S1 v1 H1 p1 e1 r1 s1 => ⟨env, S1, _, PX, re.ext e1, s1, p1, fun d2 S2 v2 H2 p2 e2 r2 s2 => ⟨d1, d2, S2, _, r1.ext e2, r2, s2, p2, fun d3 S3 v3 H3 p3 e3 r3 s3 => ?_⟩, hx.ext e1⟩, hx⟩
  cases r3 with
  | bl k =>
    refine ⟨k, rfl, ?_⟩
    have p3' : if k = true then wc env S3 (fun w S4 => o' d2 w S4 P) PX else P (.bl false) S3 := p3
    by_cases hk : k = true
    · rw [if_pos hk] at p3' ⊢
      exact ⟨env, S3, _, PX, re.ext (e1.trans (e2.trans e3)), s3, p3', fun d4 S4 v4 H4 p4 e4 r4 s4 => ⟨d2, d4, S4, P, r2.ext (e3.trans e4), r4, s4, p4, hq.ext (e1.trans (e2.trans (e3.trans e4)))⟩, hx.ext (e1.trans (e2.trans e3))⟩
    · rw [if_neg hk] at p3' ⊢
      exact hq _ S3 _ H3 p3' (e1.trans (e2.trans e3)) (.bl _) s3
  | _ => exact (show False from p3).elim
theorem last_two : lastMarks [op, op'] [b, c] = behindInMarks op' c := rfl
theorem ie_chain (ho : D2 X (compareOp op) o) (ho' : D2 X (compareOp op') o') (ha : IE X W a wa) (hb : IE X W b wb) (hc : IE X W c wc) (hm : behindInMarks op' c = false) : IE X W (.Compare a [op, op'] [b, c] pos) (wChain o o' wa wb wc) :=
  (pe_chain ho.cmp ho'.cmp ha hb hc (last_two.trans hm)).of fun σ H Q h => chain_of σ H Q h
theorem it_chain (ho : D2 X (compareOp op) o) (ho' : D2 X (compareOp op') o') (ha : IE X W a wa) (hb : IE X W b wb) (hc : IE X W c wc) (hm : behindInMarks op' c = false) : IT X W (.Compare a [op, op'] [b, c] pos) (wBl (wChain o o' wa wb wc)) := by
  refine (pt_chain ho.cmp ho'.cmp ha hb hc (last_two.trans hm)).of fun σ H Q ⟨env, S, P, PX, re, rs, h, hq, hx⟩ => ?_
  refine chain_of (o := o) (o' := o') (wa := wa) (wb := wb) (wc := wc) σ H _ ⟨env, S, _, PX, re, rs, h, fun d S' v H' p e1 r s => ?_, hx⟩
  obtain ⟨k, rfl, q⟩ := bl_of p
  cases r
  exact ⟨k, rfl, hq k S' H' q e1 s⟩
/-! ### the values of a list of ints -/
/-- the items of a list -/
def lstOf (S : Sto) (d : D) : Option (List D) := match d with
  | .lst ds => some ds
  | .ref a => match S a with
    | some (.lst ds) => some ds
    | none => none
  | _ => none
theorem lst_rep {K : PySem.W.Frag} {H : Hp} {S : Sto} {v : V} {d : D} {ds : List D} (r : Rep K H v d) (rs : RepS K H S) (h : lstOf S d = some ds) : ∃ p vs, v = .ref p ∧ SqL K H p vs ∧ RepL K H vs ds := by
  cases r with
  | lst h' r' => cases h; exact ⟨_, _, rfl, h'.sql, r'⟩
  | ref a =>
    unfold lstOf at h
    cases e : S a with
    | none => simp [e] at h
    | some o =>
      cases o with
      | lst es =>
        simp [e] at h
        subst h
        obtain ⟨vs, q, t⟩ := rs a _ e
        exact ⟨_, _, rfl, .of q, t⟩
  | _ => cases h
/-- a pair of whole numbers -/
def prD (c : Int × Int) : D := .tup [.int c.1, .int c.2]
theorem toPL_pr : ∀ cs : List (Int × Int), toPL (cs.map prD) = cs.map PySem.W.Datum.toD
  | [] => rfl
  | c :: cs => by
    have e : toPL ((c :: cs).map prD) = toP (prD c) :: toPL (cs.map prD) := by simp only [List.map_cons, toPL]
    rw [e, toPL_pr cs, List.map_cons]
    congr 1
theorem nr_pr : ∀ cs : List (Int × Int), norefL (cs.map prD) = true
  | [] => rfl
  | c :: cs => by simp [norefL, noref, prD, nr_pr cs]
def oMin : ON := fun xs S P => match xs with
  | [.int i, .int j] => P (.int (min i j)) S
  | [.int i, .int j, .int k] => P (.int (min (min i j) k)) S
  | [d] => (∃ ns : List Int, lstOf S d = some (ns.map D.int) ∧ 0 < ns.length ∧ ∀ m, m ∈ ns → (∀ y, y ∈ ns → m ≤ y) → P (.int m) S) ∨
    ∃ (c : Int × Int) (cs : List (Int × Int)), lstOf S d = some ((c :: cs).map prD) ∧ P (prD (PySem.W.minOf c cs)) S
  | _ => False
def oMax : ON := fun xs S P => match xs with
  | [.int i, .int j] => P (.int (max i j)) S
  | [.int i, .int j, .int k] => P (.int (max (max i j) k)) S
  | [d] => ∃ ns : List Int, lstOf S d = some (ns.map D.int) ∧ 0 < ns.length ∧ ∀ m, m ∈ ns → (∀ y, y ∈ ns → y ≤ m) → P (.int m) S
  | _ => False
def oSum : ON := fun xs S P => match xs with
  | [d] => ∃ ns : List Int, lstOf S d = some (ns.map D.int) ∧ P (.int ns.sum) S
  | _ => False
theorem rl3 {K : PySem.W.Frag} {H : Hp} {vs : List V} {d e f : D} (r : RepL K H vs [d, e, f]) : ∃ v u w, vs = [v, u, w] ∧ Rep K H v d ∧ Rep K H u e ∧ Rep K H w f := by
  cases r with
  | cons r t =>
    obtain ⟨u, w, rfl, q, q2⟩ := rl2 t
    exact ⟨_, _, _, rfl, r, q, q2⟩
theorem n_sum (hc : X.calm = true) : DN X (fun us => call (.builtin "sum") us) oSum := by
  intro pins s σ H S xs xvs us P I rv r rs h Q hq
  match xs, h with
  | [d], ⟨ns, e, p⟩ =>
    obtain ⟨v, rfl, r1⟩ := rl1 r
    obtain ⟨a, vs, rfl, hs, rl⟩ := lst_rep r1 rs e
    obtain rfl := rl.ints
    exact cr_sum hc pins s σ H _ us Q I rv ⟨a, ns, rfl, hs, hq.here p (.int _) rs⟩
theorem mn {i j : Int} : (if j < i then j else i) = min i j := by
  rw [Int.min_def]
  split <;> split <;> omega
theorem mx {i j : Int} : (if j > i then j else i) = max i j := by
  rw [Int.max_def]
  split <;> split <;> omega
theorem nu_min2 {i j : Int} : nuMin2 (.int i) (.int j) = some (.int (min i j)) := by
  show some (if (decide (j < i)) = true then V.int j else V.int i) = _
  rw [← mn]
  by_cases h : j < i
  · rw [if_pos (decide_eq_true h), if_pos h]
  · rw [if_neg (by simpa using h), if_neg h]
theorem nu_max2 {i j : Int} : nuMax2 (.int i) (.int j) = some (.int (max i j)) := by
  show some (if (decide (i < j)) = true then V.int j else V.int i) = _
  rw [← mx]
  by_cases h : i < j
  · rw [if_pos (decide_eq_true h), if_pos h]
  · rw [if_neg (by simpa using h), if_neg (by omega)]
theorem n_min_pr (hc : X.calm = true) (hu : X.A.units + 65 < cLine) {pins : List (Addr × Obj)} {s : Shared} {σ : St} {H : Hp} {S : Sto} {xv : V} {d : D} {us : List Value} {c : Int × Int} {cs : List (Int × Int)} (I : Inv X pins σ H s) (rv : Vals [xv] us) (r : Rep X.K H xv d) (rs : RepS X.K H S)
    (e : lstOf S d = some ((c :: cs).map prD)) {Q : VK} (q : ∀ u, Rep X.K H u (prD (PySem.W.minOf c cs)) → Q u H) : wpAny (model X.prog X.w) X.A (call (.builtin "min") us) (EP X pins σ Q) X.xe s := by
  obtain ⟨a, vs, rfl, hs, rl⟩ := lst_rep r rs e
  obtain ⟨its, rt, hl, _⟩ := I.list hs
  rw [Vals.ref1 rv]
  obtain ⟨as, hr⟩ := Dp.readsAll I _ vs its (dpL_of rl (nr_pr _)) rt
  rw [toPL_pr] at hr
  have HA : PySem.W.HoldAll s.heap its.toArray.toList (c :: cs) := ⟨as, by rw [List.toList_toArray]; exact hr⟩
  refine PySem.W.min_list_datum (I.ok.hd hc) hl.isList HA (by
    show X.A.units + 1 + PySem.W.Datum.depth (Int × Int) < cLine
    have : PySem.W.Datum.depth (Int × Int) = 1 := rfl
    omega) fun i v h' tk hi hh hk => ?_
  rw [List.getElem?_toArray] at hi
  obtain ⟨x, hx, hv⟩ := HA.at (by rw [List.toList_toArray]; exact hi)
  obtain ⟨bs, hv⟩ := PySem.W.Holds.keeps hk hv
  obtain ⟨bs', hh⟩ := hh
  have ex : PySem.W.Datum.toD x = PySem.W.Datum.toD (PySem.W.minOf c cs) := PySem.SeqAt.plain_unique _ _ v _ _ (PySem.W.Datum.plain x) hv hh
  have ex2 : x = PySem.W.minOf c cs := by
    have e1 := PySem.W.Datum.eqv x (PySem.W.minOf c cs)
    have e2 := PySem.W.Datum.eqv (PySem.W.minOf c cs) (PySem.W.minOf c cs)
    rw [ex, e2] at e1
    exact of_decide_eq_true (e1.symm.trans (decide_eq_true rfl))
  subst ex2
  have hp : ((c :: cs).map prD)[i]? = some (prD (PySem.W.minOf c cs)) := by rw [List.getElem?_map, hx]; rfl
  obtain ⟨u, eu, ru⟩ := rl.get hp
  obtain ⟨v', ev, rl'⟩ := Vals.get rt eu
  rw [hi] at ev
  cases ev
  exact ⟨u, H, I.kept hk, rl', q u ru⟩
theorem n_min (hc : X.calm = true) (hu : X.A.units + 65 < cLine) : DN X (fun us => call (.builtin "min") us) oMin := by
  intro pins s σ H S xs xvs us P I rv r rs h Q hq
  unfold oMin at h
  split at h
  · rename_i i j
    obtain ⟨v, u, rfl, r1, r2⟩ := rl2 r
    cases r1; cases r2
    exact call_min2 hc pins s σ H _ us Q I rv ⟨i, j, rfl, hq.here (by rw [mn]; exact h) (.int _) rs⟩
  · rename_i i j k
    obtain ⟨v, u, w, rfl, r1, r2, r3⟩ := rl3 r
    cases r1; cases r2; cases r3
    exact call_min3Nu hc pins s σ H _ us Q I rv ⟨.int i, .int j, .int k, _, rfl, (by show (nuMin2 _ _).bind _ = _; rw [nu_min2]; exact nu_min2), hq.here h (.int _) rs⟩
  · rcases h with ⟨ns, e, hn, p⟩ | ⟨c, cs, e, p⟩
    · obtain ⟨v, rfl, r1⟩ := rl1 r
      obtain ⟨a, vs, rfl, hs, rl⟩ := lst_rep r1 rs e
      obtain rfl := rl.ints
      exact cr_min hc pins s σ H _ us Q I rv ⟨a, ns, rfl, hs, hn, fun m h1 h2 => hq.here (p m h1 h2) (.int _) rs⟩
    · obtain ⟨v, rfl, r1⟩ := rl1 r
      exact n_min_pr hc hu I rv r1 rs e fun u ru => hq.here p ru rs
  · exact h.elim
theorem n_max (hc : X.calm = true) : DN X (fun us => call (.builtin "max") us) oMax := by
  intro pins s σ H S xs xvs us P I rv r rs h Q hq
  unfold oMax at h
  split at h
  · rename_i i j
    obtain ⟨v, u, rfl, r1, r2⟩ := rl2 r
    cases r1; cases r2
    exact call_max2 hc pins s σ H _ us Q I rv ⟨i, j, rfl, hq.here (by rw [mx]; exact h) (.int _) rs⟩
  · rename_i i j k
    obtain ⟨v, u, w, rfl, r1, r2, r3⟩ := rl3 r
    cases r1; cases r2; cases r3
    exact call_max3Nu hc pins s σ H _ us Q I rv ⟨.int i, .int j, .int k, _, rfl, (by show (nuMax2 _ _).bind _ = _; rw [nu_max2]; exact nu_max2), hq.here h (.int _) rs⟩
  · obtain ⟨ns, e, hn, p⟩ := h
    obtain ⟨v, rfl, r1⟩ := rl1 r
    obtain ⟨a, vs, rfl, hs, rl⟩ := lst_rep r1 rs e
    obtain rfl := rl.ints
    exact cr_max hc pins s σ H _ us Q I rv ⟨a, ns, rfl, hs, hn, fun m h1 h2 => hq.here (p m h1 h2) (.int _) rs⟩
  · exact h.elim
/-! ### str of an int, list of a list -/
def oStr : ON := fun xs S P => match xs with
  | [.int i] => i.natAbs.log2 < 1920 ∧ P (.str (toString i)) S
  | _ => False
theorem n_str : DN X (fun us => call (.type "str") us) oStr := by
  intro pins s σ H S xs xvs us P I rv r rs h Q hq
  unfold oStr at h
  split at h
  · rename_i i
    obtain ⟨v, rfl, r1⟩ := rl1 r
    cases r1
    exact call_str_int pins s σ H _ us Q I rv ⟨i, rfl, h.1, hq.here h.2 (.str _) rs⟩
  · exact h.elim
/-- a copy that may change -/
def oListN : ON := fun xs S P => match xs with
  | [d] => match seqOf S d with
    | some ds => ∀ p, S p = none → P (.ref p) (sput S p (.lst ds))
    | none => False
  | _ => False
/-- a copy that stays -/
def oList : ON := fun xs S P => match xs with
  | [d] => match seqOf S d with
    | some ds => P (.lst ds) S
    | none => False
  | _ => False
theorem n_listN : DN X (fun us => call (.type "list") us) oListN := by
  intro pins s σ H S xs xvs us P I rv r rs h Q hq
  unfold oListN at h
  split at h
  · split at h
    · rename_i d ds e
      obtain ⟨v, rfl, r1⟩ := rl1 r
      obtain ⟨p, vs, rfl, hl, rl⟩ := seq_rep r1 rs e
      refine call_list_of pins s σ H _ us Q I rv ⟨p, vs, rfl, hl, fun q hq2 => ?_⟩
      exact hq _ _ _ _ (h q (rs.free hq2)) (Ext.new hq2) (.ref q) (rs.newL hq2 rl)
    · exact h.elim
  · exact h.elim
theorem n_list : DN X (fun us => call (.type "list") us) oList := by
  intro pins s σ H S xs xvs us P I rv r rs h
  unfold oList at h
  split at h
  · split at h
    · rename_i d ds e
      obtain ⟨v, rfl, r1⟩ := rl1 r
      obtain ⟨p, vs, rfl, hl, rl⟩ := seq_rep r1 rs e
      exact new_lst (S := S) (P := P) (fun Q' hq' => call_list_of pins s σ H _ us Q' I rv ⟨p, vs, rfl, hl, fun q hq2 => hq' q hq2⟩) rl rs h
    · exact fun _ _ => h.elim
  · exact fun _ _ => h.elim
def oListM (m : Bool) : ON := if m = true then oListN else oList
/-! ### in, not in -/
/-- the items of a list or a tuple -/
def rowOf (S : Sto) (d : D) : Option (List D) := match d with
  | .tup ds => some ds
  | d => lstOf S d
def oIn : O2 := fun x y S P => ∃ ds, rowOf S y = some ds ∧ okD (res S x) = true ∧ okD (res S y) = true ∧ P (.bl ((toPL ds).any fun z => PyData.eqv z (toP (res S x)))) S
def oNotIn : O2 := fun x y S P => ∃ ds, rowOf S y = some ds ∧ okD (res S x) = true ∧ okD (res S y) = true ∧ P (.bl (!(toPL ds).any fun z => PyData.eqv z (toP (res S x)))) S
theorem lst_res {S : Sto} {y : D} {ds : List D} (h : lstOf S y = some ds) : res S y = .lst ds := by
  unfold lstOf at h
  split at h
  · cases h; rfl
  · rename_i a
    unfold res
    split at h
    · rename_i e
      cases h
      simp only [e]
    · cases h
  · cases h
def rInP (K : PySem.W.Frag) (b : Bool) : R2 := fun x y H Q => ∃ d ds, Dp K H x d ∧ Dp K H y (.tuple ds) ∧ SeqAt.shaped d = true ∧ SeqAt.shaped (.tuple ds) = true ∧ Q (.bl (b ^^ ds.any fun z => PyData.eqv z d)) H
theorem op_inP (hu : X.A.units + 65 < cLine) : OpR X (compareOp .In) (rInP X.K false) := by
  intro pins s σ H x y v u Q I rx ry ⟨d, ds, hd, he, sd, se, q⟩
  obtain ⟨as, r1⟩ := Dp.reads I d x v hd rx; obtain ⟨bs, r2⟩ := Dp.reads I (.tuple ds) y u he ry
  refine SeqAt.in_tuple_reads r2 r1 (SeqAt.canLay_of_shaped se) (SeqAt.canLay_of_shaped sd) (PyProof.Rows.room_in_shaped sd hu) ⟨.bl _, H, I, rfl, ?_⟩
  simpa using q
theorem op_ninP (hu : X.A.units + 65 < cLine) : OpR X (compareOp .NotIn) (rInP X.K true) := by
  intro pins s σ H x y v u Q I rx ry ⟨d, ds, hd, he, sd, se, q⟩
  obtain ⟨as, r1⟩ := Dp.reads I d x v hd rx; obtain ⟨bs, r2⟩ := Dp.reads I (.tuple ds) y u he ry
  refine SeqAt.notIn_tuple_reads r2 r1 (SeqAt.canLay_of_shaped se) (SeqAt.canLay_of_shaped sd) (PyProof.Rows.room_in_shaped sd hu) ⟨.bl _, H, I, rfl, ?_⟩
  simpa using q
theorem row_cases {S : Sto} {y : D} {ds : List D} (h : rowOf S y = some ds) : y = .tup ds ∨ (lstOf S y = some ds ∧ res S y = .lst ds) := by
  cases y with
  | tup es => cases h; exact .inl rfl
  | lst es => exact .inr ⟨h, lst_res h⟩
  | ref a => exact .inr ⟨h, lst_res h⟩
  | non => exact .inr ⟨h, lst_res h⟩
  | bl _ => exact .inr ⟨h, lst_res h⟩
  | int _ => exact .inr ⟨h, lst_res h⟩
  | str _ => exact .inr ⟨h, lst_res h⟩
theorem d_in (hu : X.A.units + 65 < cLine) : D2 X (compareOp .In) oIn := by
  intro pins s σ H S x y xv yv v u P I rx ry r1 r2 rs ⟨ds, e, h1, h2, p⟩ Q hq
  obtain ⟨a1, a2⟩ := dp_res r1 rs h1
  obtain ⟨b1, b2⟩ := dp_res r2 rs h2
  rcases row_cases e with rfl | ⟨_, ey⟩
  · exact op_inP hu pins s σ H _ _ v u Q I rx ry ⟨_, _, a1, b1, a2, b2, hq.here (by simpa using p) (.bl _) rs⟩
  · rw [ey] at b1 b2
    exact op_inD hu pins s σ H _ _ v u Q I rx ry ⟨_, _, a1, b1, a2, b2, hq.here p (.bl _) rs⟩
theorem d_notIn (hu : X.A.units + 65 < cLine) : D2 X (compareOp .NotIn) oNotIn := by
  intro pins s σ H S x y xv yv v u P I rx ry r1 r2 rs ⟨ds, e, h1, h2, p⟩ Q hq
  obtain ⟨a1, a2⟩ := dp_res r1 rs h1
  obtain ⟨b1, b2⟩ := dp_res r2 rs h2
  rcases row_cases e with rfl | ⟨_, ey⟩
  · exact op_ninP hu pins s σ H _ _ v u Q I rx ry ⟨_, _, a1, b1, a2, b2, hq.here (by simpa using p) (.bl _) rs⟩
  · rw [ey] at b1 b2
    exact op_notInD hu pins s σ H _ _ v u Q I rx ry ⟨_, _, a1, b1, a2, b2, hq.here p (.bl _) rs⟩
/-! ### isinstance of a built-in type -/
def tyD : D → String
  | .non => "NoneType"
  | .bl _ => "bool"
  | .int _ => "int"
  | .str _ => "str"
  | .tup _ => "tuple"
  | .lst _ => "list"
  | .ref _ => "list"
inductive Bt where
  | int | bool | str | tuple | list
def Bt.nm : Bt → String
  | .int => "int" | .bool => "bool" | .str => "str" | .tuple => "tuple" | .list => "list"
def isTy (t : Bt) (d : D) : Bool := match t, d with
  | .int, .int _ => true
  | .int, .bl _ => true
  | .bool, .bl _ => true
  | .str, .str _ => true
  | .tuple, .tup _ => true
  | .list, .lst _ => true
  | .list, .ref _ => true
  | _, _ => false
theorem kit_isTy {K : PySem.W.Frag} (t : Bt) (d : D) : PySem.W.kitOne K (.type (tyD d)) (.type t.nm) = some (isTy t d) := by
  refine kit_ty ?_
  cases t <;> cases d <;> first | rfl | decide +kernel
def okT (S : Sto) : D → Prop
  | .ref a => S a ≠ none
  | _ => True
theorem ty_rep {K : PySem.W.Frag} {H : Hp} {S : Sto} {v : V} {d : D} (r : Rep K H v d) (rs : RepS K H S) (h : okT S d) : TyX K H v (.type (tyD d)) := by
  cases r with
  | non => exact .base .non
  | bl b => exact .base (.bl b)
  | int i => exact .base (.int i)
  | str x => exact .base (.str x)
  | ref a =>
    cases e : S a with
    | none => exact absurd e h
    | some o =>
      cases o with
      | lst es =>
        obtain ⟨vs, q, t⟩ := rs a _ e
        exact .base (.lst q)
  | tup h1 _ =>
    rcases h1 with (h1 | ⟨o, h1⟩) | ⟨o, its, n, h1, h2, _⟩
    · exact .base (.tup h1)
    · exact .fTuple h1
    · exact .kTuple h1 h2
  | lst h1 _ =>
    rcases h1 with ⟨o, h1⟩ | ⟨o, its, n, h1, h2, _⟩
    · exact .base (.frz h1)
    · exact .kList h1 h2
def wIsT (t : Bt) (w : WE) : WE := fun env S P X => w env S (fun d S1 => okT S1 d ∧ P (.bl (isTy t d)) S1) X
theorem ie_isT {t : Bt} {x : Str} {p p2 : Pos} (hg : Gl X "isinstance") (hm : X.mg "isinstance" = none) (hgT : Gl X x) (hmT : X.mg x = none) (hv : bootBuiltins x = some (.type t.nm)) (hn : x ≠ "__name__") (hd : (x == ("__debug__" : Str)) = false)
    (he : IE X W e wa) (hs : starEach [e, .Name x p2] X.env = (false, eval e X.env) :: starEach [.Name x p2] X.env) : IE X W (.Call (.Name "isinstance" p) [e, .Name x p2] [] pos) (wIsT t wa) := by
  have ha : PA X [e, .Name x p2] (tCons (tE X.K X.mg W wa) (tCons (tC (.ty t.nm)) tNil)) := pa_cons he (pa_cons (pe_bltn hgT hmT hv rfl hn hd) pa_nil) hs
  refine (pe_callB call_isi hg hm (by first | exact PyProof.Rows.Boot.«isinstance» | decide +kernel) ha (by decide) (by decide) hs rfl).of fun σ H Q ⟨env, S, P, PX, re, rs, h, hq, hx⟩ => ?_
  refine ⟨env, S, _, PX, re, rs, h, fun d S1 v H1 p e1 r s => ?_, hx⟩
  exact ⟨_, _, _, _, _, rfl, .ty _, ty_rep r s p.1, kit_isTy t d, hq _ S1 _ H1 p.2 e1 (.bl _) s⟩
end
end PL
namespace PL
open PySem PySem.Spec PyProof.Rows L2
/-! ### zip of two rows, each a list or a tuple -/
inductive Kd where
  | l | t
def ZI : Kd → Heap → Addr → Addr → Nat → Prop
  | .l, h, i, a, k => h.IsListIter i a k
  | .t, h, i, a, k => h.IsTupleIter i a k
def ZQ : Kd → Heap → Addr → Array Value → Prop
  | .l, h, a, xs => h.IsList a xs
  | .t, h, a, xs => h.IsTuple a xs
theorem ZI.but {k : Kd} {h g : Heap} {a b c : Addr} {n : Nat} (x : ZI k h a c n) (e : Heap.ExtBut b h g) (ne : a ≠ b) : ZI k g a c n := by
  cases k with
  | l => exact Heap.IsListIter.extBut x e ne
  | t => exact Heap.IsTupleIter.extBut x e ne
theorem ZQ.but {k : Kd} {h g : Heap} {a b : Addr} {xs : Array Value} (x : ZQ k h a xs) (e : Heap.ExtBut b h g) (ne : a ≠ b) : ZQ k g a xs := by
  cases k with
  | l => exact Heap.IsList.extBut x e ne
  | t => exact Heap.IsTuple.extBut x e ne
theorem ZI.at {k : Kd} {h g : Heap} {a c : Addr} {n : Nat} (x : ZI k h a c n) (e : ∀ o, h.get? a = some o → g.get? a = some o) : ZI k g a c n := by
  cases k with
  | l => exact Heap.IsListIter.at x e
  | t => exact Heap.IsTupleIter.at x e
theorem ZI.obj {k : Kd} {h : Heap} {a c : Addr} {n : Nat} (x : ZI k h a c n) : ∃ o fs, h.get? a = some o ∧ o.data = .fields fs := by
  cases k with
  | l => obtain ⟨o, e, _, d⟩ := x; exact ⟨o, _, e, d⟩
  | t => obtain ⟨o, e, _, d⟩ := x; exact ⟨o, _, e, d⟩
theorem ZQ.lt {k : Kd} {h : Heap} {a : Addr} {xs : Array Value} (x : ZQ k h a xs) : a < h.objs.size := by
  cases k with
  | l => obtain ⟨o, e, _⟩ := x; exact Heap.lt_size e
  | t => obtain ⟨o, e, _⟩ := x; exact Heap.lt_size e
section
variable {prog : Program} {w : World} {A : Around} {E : Value → Shared → Prop} {s : Shared} {z TI TO i1 i2 l1 l2 : Addr} {m1 m2 : Nat} {xs ys : Array Value} {x y a b : Value} {k k1 k2 : Kd}
theorem ZI.next {it c : Addr} {n : Nat} {Q : Value → Shared → Prop} (p : ZI k s.heap it c n) (q : ZQ k s.heap c xs) (e : xs[n]? = some x)
    (hQ : ∀ g, ZI k g it c (n + 1) → Heap.SameBut it s.heap g → Q x { s with heap := g }) : wpAny (model prog w) A (Builtin.SmallTypes.nextOf (.ref it)) Q E s := by
  cases k with
  | l => exact wpAny_nextOf_list_item p q e hQ
  | t => exact RZ.nextOf_tuple_item p q e hQ
theorem ZI.stop {it c : Addr} {n : Nat} {Q : Value → Shared → Prop} (hh : A.handled = none) (p : ZI k s.heap it c n) (q : ZQ k s.heap c xs) (e : xs[n]? = none)
    (hE : ∀ g u, Heap.ExtBut it s.heap g → (∃ o, g.get? u = some o ∧ o.cls = .type "StopIteration") → E (.ref u) { s with heap := g }) : wpAny (model prog w) A (Builtin.SmallTypes.nextOf (.ref it)) Q E s := by
  cases k with
  | l => exact wpAny_nextOf_list_end hh p q e hE
  | t => exact RZ.nextOf_tuple_end hh p q e hE
theorem zx_item {Q : Value → Shared → Prop} (D : ZipApart z TI TO i1 i2 l1 l2) (gz : IsZip s.heap z TI TO .none) (gI : IsPair s.heap TI (.ref i1) (.ref i2)) (gO : IsPair s.heap TO a b)
    (p1 : ZI k1 s.heap i1 l1 m1) (p2 : ZI k2 s.heap i2 l2 m2) (q1 : ZQ k1 s.heap l1 xs) (q2 : ZQ k2 s.heap l2 ys) (ex : xs[m1]? = some x) (ey : ys[m2]? = some y)
    (hQ : ∀ g, IsZip g z TI TO (rawInt s.heap.objs.size) → IsPair g TO x y → ZI k1 g i1 l1 (m1 + 1) → ZI k2 g i2 l2 (m2 + 1) → IsPair g s.heap.objs.size x y →
      (∀ c o, c ≠ z → c ≠ TO → c ≠ i1 → c ≠ i2 → s.heap.get? c = some o → g.get? c = some o) → Q (.ref s.heap.objs.size) { s with heap := g }) :
    wpAny (model prog w) A (Builtin.«zip.__next__» ⟨[.ref z], []⟩) (fun fin s' => ∃ v, fin = .done (.ret v) ∧ Q v s') E s := by
  show wpAny _ _ (field (.ref z) 2 >>= _) _ _ _; refine wpAny_bind (wpAny_field gz rfl (x := .bool false) rfl ?_)
  show wpAny _ _ (field (.ref z) 3 >>= _) _ _ _; refine wpAny_bind (wpAny_field gz rfl (x := .ref TI) rfl (wpAny_bind (wpAny_seqItems gI rfl ?_)))
  show wpAny _ _ (Builtin.SmallTypes.ownedTupleIsFree (.ref z) >>= _) _ _ _; refine wpAny_bind ?_; unfold Builtin.SmallTypes.ownedTupleIsFree
  refine wpAny_bind (wpAny_field gz rfl (x := .none) rfl (wpAny_pure ?_)); simp only [if_true]
  refine wpAny_bind (wpAny_rule (wpAny_bind (wpAny_field gz rfl (x := .ref TO) rfl (wpAny_bind (wpAny_setField_rec gz (by simp) fun g1 gz1 b1 => ?_)))))
  replace gz1 : IsZip g1 z TI TO .ellipsis := gz1
  refine wpAny_bind ?_; simp only [List.zipIdx_cons, List.zipIdx_nil, List.forIn_cons, List.forIn_nil]
  refine wpAny_bind (wpAny_bind (wpAny_onRaise ?_)); show wpAny _ _ (Builtin.SmallTypes.nextOf (.ref i1) >>= _) _ _ _
  refine wpAny_bind ((p1.but b1.extBut D.i1z).next (q1.but b1.extBut D.l1z) ex fun g2 r1 b2 => wpAny_pure ?_)
  have gO2 : IsPair g2 TO a b := b2.extBut _ _ D.TOi1 (b1.extBut _ _ D.TOz gO)
  refine wpAny_bind (wpAny_seqItems gO2 rfl (wpAny_bind (wpAny_updateSeq_pair gO2 fun g3 gO3 b3 => ?_)))
  replace gO3 : IsPair g3 TO x b := gO3
  refine wpAny_bind (wpAny_letGo (wpAny_pure (wpAny_bind (wpAny_bind (wpAny_onRaise ?_))))); show wpAny _ _ (Builtin.SmallTypes.nextOf (.ref i2) >>= _) _ _ _
  refine wpAny_bind ((((p2.but b1.extBut D.i2z).but b2.extBut D.i12.symm).but b3.extBut D.TOi2.symm).next (((q2.but b1.extBut D.l2z).but b2.extBut D.l2i1).but b3.extBut D.l2TO) ey fun g4 r2 b4 => wpAny_pure ?_)
  have gO4 : IsPair g4 TO x b := b4.extBut _ _ D.TOi2 gO3
  refine wpAny_bind (wpAny_seqItems gO4 rfl (wpAny_bind (wpAny_updateSeq_pair gO4 fun g5 gO5 b5 => ?_)))
  replace gO5 : IsPair g5 TO x y := gO5
  refine wpAny_bind (wpAny_letGo (wpAny_pure (wpAny_pure (wpAny_bind (wpAny_seqItems gO5 rfl (wpAny_bind (wpAny_newTuple ?_)))))))
  have sz5 : g5.objs.size = s.heap.objs.size := by rw [b5.1, b4.1, b3.1, b2.1, b1.1]
  have gz5 : IsZip g5 z TI TO .ellipsis := b5.extBut _ _ D.TOz.symm (b4.extBut _ _ D.i2z.symm (b3.extBut _ _ D.TOz.symm (b2.extBut _ _ D.i1z.symm gz1)))
  have old5 : ∀ c o, c ≠ z → c ≠ TO → c ≠ i1 → c ≠ i2 → s.heap.get? c = some o → g5.get? c = some o := fun c o n1 n2 n3 n4 e =>
    b5.extBut _ _ n2 (b4.extBut _ _ n4 (b3.extBut _ _ n2 (b2.extBut _ _ n3 (b1.extBut _ _ n1 e))))
  have r15 : ZI k1 g5 i1 l1 (m1 + 1) := ((r1.but b3.extBut D.TOi1.symm).but b4.extBut D.i12).but b5.extBut D.TOi1.symm
  have r25 : ZI k2 g5 i2 l2 (m2 + 1) := r2.but b5.extBut D.TOi2.symm
  have ltz : z < g5.objs.size := Heap.lt_size gz5
  show wpAny _ _ (Builtin.SmallTypes.ownedTupleHandOut (.ref z) (.ref g5.objs.size) >>= _) _ _ _; refine wpAny_bind ?_; unfold Builtin.SmallTypes.ownedTupleHandOut
  have gz6 : IsZip (g5.push { cls := .type "tuple", data := .seq #[x, y] }) z TI TO .ellipsis := Heap.get?_push_of_some _ gz5
  refine wpAny_bind (wpAny_setField_rec gz6 (by simp) fun g7 gz7 b7 => ?_)
  replace gz7 : IsZip g7 z TI TO (rawInt g5.objs.size) := gz7
  refine wpAny_setField_rec gz7 (by simp) fun g8 gz8 b8 => ?_
  replace gz8 : IsZip g8 z TI TO (rawInt g5.objs.size) := gz8
  have up : ∀ c o, c ≠ z → g5.get? c = some o → g8.get? c = some o := fun c o n1 e => b8.extBut _ _ n1 (b7.extBut _ _ n1 (Heap.get?_push_of_some _ e))
  have gT8 : IsPair g8 g5.objs.size x y := b8.extBut _ _ (Nat.ne_of_gt ltz) (b7.extBut _ _ (Nat.ne_of_gt ltz) (Heap.get?_push_size _ rfl))
  rw [sz5] at gz8 gT8
  refine wpAny_pure ⟨_, rfl, ?_⟩; show Q (.ref g5.objs.size) _
  rw [sz5]; exact hQ g8 gz8 (up _ _ D.TOz gO5) (r15.at fun o e => up _ o D.i1z e) (r25.at fun o e => up _ o D.i2z e) gT8 fun c o n1 n2 n3 n4 e => up c o n1 (old5 c o n1 n2 n3 n4 e)
theorem zx_end {Q : Fin → Shared → Prop} (hh : A.handled = none) (D : ZipApart z TI TO i1 i2 l1 l2) (gz : IsZip s.heap z TI TO .none) (gI : IsPair s.heap TI (.ref i1) (.ref i2)) (gO : IsPair s.heap TO a b)
    (p1 : ZI k1 s.heap i1 l1 m1) (p2 : ZI k2 s.heap i2 l2 m2) (q1 : ZQ k1 s.heap l1 xs) (q2 : ZQ k2 s.heap l2 ys) (en : xs[m1]? = none ∨ ys[m2]? = none)
    (hE : ∀ g u, (∀ c o, c ≠ z → c ≠ TO → c ≠ i1 → c ≠ i2 → s.heap.get? c = some o → g.get? c = some o) → (∃ o, g.get? u = some o ∧ o.cls = .type "StopIteration") → E (.ref u) { s with heap := g }) :
    wpAny (model prog w) A (Builtin.«zip.__next__» ⟨[.ref z], []⟩) Q E s := by
  show wpAny _ _ (field (.ref z) 2 >>= _) _ _ _; refine wpAny_bind (wpAny_field gz rfl (x := .bool false) rfl ?_)
  show wpAny _ _ (field (.ref z) 3 >>= _) _ _ _; refine wpAny_bind (wpAny_field gz rfl (x := .ref TI) rfl (wpAny_bind (wpAny_seqItems gI rfl ?_)))
  show wpAny _ _ (Builtin.SmallTypes.ownedTupleIsFree (.ref z) >>= _) _ _ _; refine wpAny_bind ?_; unfold Builtin.SmallTypes.ownedTupleIsFree
  refine wpAny_bind (wpAny_field gz rfl (x := .none) rfl (wpAny_pure ?_)); simp only [if_true]
  refine wpAny_bind (wpAny_rule (wpAny_bind (wpAny_field gz rfl (x := .ref TO) rfl (wpAny_bind (wpAny_setField_rec gz (by simp) fun g1 gz1 b1 => ?_)))))
  replace gz1 : IsZip g1 z TI TO .ellipsis := gz1
  refine wpAny_bind ?_; simp only [List.zipIdx_cons, List.zipIdx_nil, List.forIn_cons, List.forIn_nil]
  refine wpAny_bind (wpAny_bind (wpAny_onRaise ?_)); show wpAny _ _ (Builtin.SmallTypes.nextOf (.ref i1) >>= _) _ _ _
  cases ex : xs[m1]? with
  | none =>
    refine wpAny_bind ((p1.but b1.extBut D.i1z).stop hh (q1.but b1.extBut D.l1z) ex fun g2 u b2 ⟨oe, ou, oc⟩ => ?_)
    have gz2 : IsZip g2 z TI TO .ellipsis := b2 _ _ D.i1z.symm gz1
    have uz : u ≠ z := fun q => by subst q; rw [gz2] at ou; cases ou; simp at oc
    exact wpAny_setField_rec gz2 (by simp) fun g3 _ b3 => hE g3 u (fun c o n1 _ n3 _ q => b3.extBut _ _ n1 (b2 _ _ n3 (b1.extBut _ _ n1 q))) ⟨oe, b3.extBut _ _ uz ou, oc⟩
  | some x =>
    have ey : ys[m2]? = none := by rcases en with q | q; · rw [ex] at q; cases q
                                   · exact q
    refine wpAny_bind ((p1.but b1.extBut D.i1z).next (q1.but b1.extBut D.l1z) ex fun g2 r1 b2 => wpAny_pure ?_)
    have gO2 : IsPair g2 TO a b := b2.extBut _ _ D.TOi1 (b1.extBut _ _ D.TOz gO)
    refine wpAny_bind (wpAny_seqItems gO2 rfl (wpAny_bind (wpAny_updateSeq_pair gO2 fun g3 gO3 b3 => ?_)))
    refine wpAny_bind (wpAny_letGo (wpAny_pure (wpAny_bind (wpAny_bind (wpAny_onRaise ?_))))); show wpAny _ _ (Builtin.SmallTypes.nextOf (.ref i2) >>= _) _ _ _
    refine wpAny_bind ((((p2.but b1.extBut D.i2z).but b2.extBut D.i12.symm).but b3.extBut D.TOi2.symm).stop hh (((q2.but b1.extBut D.l2z).but b2.extBut D.l2i1).but b3.extBut D.l2TO) ey fun g4 u b4 ⟨oe, ou, oc⟩ => ?_)
    have gz4 : IsZip g4 z TI TO .ellipsis := b4 _ _ D.i2z.symm (b3.extBut _ _ D.TOz.symm (b2.extBut _ _ D.i1z.symm gz1))
    have uz : u ≠ z := fun q => by subst q; rw [gz4] at ou; cases ou; simp at oc
    exact wpAny_setField_rec gz4 (by simp) fun g5 _ b5 => hE g5 u (fun c o n1 n2 n3 n4 q => b5.extBut _ _ n1 (b4 _ _ n4 (b3.extBut _ _ n2 (b2.extBut _ _ n3 (b1.extBut _ _ n1 q))))) ⟨oe, b5.extBut _ _ uz ou, oc⟩
theorem zx_next {Q : Option Value → Shared → Prop} (D : ZipApart z TI TO i1 i2 l1 l2) (gz : IsZip s.heap z TI TO .none) (gI : IsPair s.heap TI (.ref i1) (.ref i2)) (gO : IsPair s.heap TO a b)
    (p1 : ZI k1 s.heap i1 l1 m1) (p2 : ZI k2 s.heap i2 l2 m2) (q1 : ZQ k1 s.heap l1 xs) (q2 : ZQ k2 s.heap l2 ys) (ex : xs[m1]? = some x) (ey : ys[m2]? = some y)
    (hQ : ∀ g, IsZip g z TI TO (rawInt s.heap.objs.size) → IsPair g TO x y → ZI k1 g i1 l1 (m1 + 1) → ZI k2 g i2 l2 (m2 + 1) → IsPair g s.heap.objs.size x y →
      (∀ c o, c ≠ z → c ≠ TO → c ≠ i1 → c ≠ i2 → s.heap.get? c = some o → g.get? c = some o) → Q (some (.ref s.heap.objs.size)) { s with heap := g }) : wpAny (model prog w) A (pyNext (.ref z)) Q E s := by
  have ty : s.TypeIs (.ref z) "zip" := ⟨_, gz, rfl⟩
  unfold pyNext
  refine wpAny_bind (wpAny_attempt (wpAny_callSpecial?_slot (name := Str.ofString "__next__") ty F.slot_zip_next (wpAny_call_entry F.slot_zip_next ty F.entry_zip_next ?_ (F.args_zip_next_1 _))))
  exact zx_item D gz gI gO p1 p2 q1 q2 ex ey fun g c1 c2 c3 c4 c5 c6 => wpAny_pure (hQ g c1 c2 c3 c4 c5 c6)
theorem zx_done {Q : Option Value → Shared → Prop} (hh : A.handled = none) (D : ZipApart z TI TO i1 i2 l1 l2) (gz : IsZip s.heap z TI TO .none) (gI : IsPair s.heap TI (.ref i1) (.ref i2)) (gO : IsPair s.heap TO a b)
    (p1 : ZI k1 s.heap i1 l1 m1) (p2 : ZI k2 s.heap i2 l2 m2) (q1 : ZQ k1 s.heap l1 xs) (q2 : ZQ k2 s.heap l2 ys) (en : xs[m1]? = none ∨ ys[m2]? = none)
    (hQ : ∀ g, (∀ c o, c ≠ z → c ≠ TO → c ≠ i1 → c ≠ i2 → s.heap.get? c = some o → g.get? c = some o) → Q none { s with heap := g }) : wpAny (model prog w) A (pyNext (.ref z)) Q E s := by
  have ty : s.TypeIs (.ref z) "zip" := ⟨_, gz, rfl⟩
  unfold pyNext
  refine wpAny_bind (wpAny_attempt (wpAny_callSpecial?_slot (name := Str.ofString "__next__") ty F.slot_zip_next (wpAny_call_entry F.slot_zip_next ty F.entry_zip_next ?_ (F.args_zip_next_1 _))))
  exact zx_end hh D gz gI gO p1 p2 q1 q2 en fun g u keep ⟨o, ho, hc⟩ => wpAny_bind (wpAny_isInstance (T := "StopIteration") (b := true) ⟨o, ho, hc⟩ isSubtype_stop (wpAny_pure (hQ _ keep)))
end
def SQ (K : PySem.W.Frag) (k : Kd) (H : Hp) (a : Addr) (xs : List V) : Prop := match k with
  | .l => SqL K H a xs
  | .t => SqT K H a xs
theorem SQ.get {X : Cx} {pins : List (Addr × Obj)} {σ : L2.St} {H : Hp} {s : Shared} {k : Kd} {a : Addr} {xs : List V} (I : L2.Inv X pins σ H s) (h : SQ X.K k H a xs) : ∃ its : List Value, Vals xs its ∧ ZQ k s.heap a its.toArray := by
  cases k with
  | l => obtain ⟨its, r, p, _⟩ := I.list h; exact ⟨its, r, p.isList⟩
  | t => obtain ⟨its, r, p, _⟩ := I.tuple h; exact ⟨its, r, p⟩
theorem SQ.inj {X : Cx} {pins : List (Addr × Obj)} {σ : L2.St} {H : Hp} {s : Shared} {k : Kd} {a : Addr} {xs ys : List V} (I : L2.Inv X pins σ H s) (h : SQ X.K k H a xs) (g : SQ X.K k H a ys) : xs = ys := by
  cases k with
  | l => exact I.list_inj h g
  | t => exact I.tuple_inj h g
/-- the pairs of two rows -/
def ItX (K : PySem.W.Frag) (k1 k2 : Kd) (a b : Addr) : It :=
  ⟨fun i H => ∃ (xs ys : List V) (x y : V), SQ K k1 H a xs ∧ SQ K k2 H b ys ∧ xs[i]? = some x ∧ ys[i]? = some y,
    fun i H v H' => ∃ T x y, v = .ref T ∧ H T = none ∧ H' = upd H T (.tup [x, y]) ∧ (∀ xs, SQ K k1 H a xs → xs[i]? = some x) ∧ ∀ ys, SQ K k2 H b ys → ys[i]? = some y,
    fun i H => ∃ xs ys : List V, SQ K k1 H a xs ∧ SQ K k2 H b ys ∧ (xs.length ≤ i ∨ ys.length ≤ i)⟩
theorem five {z TI TO i1 i2 c : Addr} (h : c ∈ [z, TI, TO, i1, i2]) : c = z ∨ c = TI ∨ c = TO ∨ c = i1 ∨ c = i2 := by simpa using h
theorem turn_x {P : Program} {w : World} {K : PySem.W.Frag} {elts : List Expr} {kk : Nat} {tpos : Pos} {k1 k2 : Kd} {a b z TI TO i1 i2 : Addr} (D : ZipApart z TI TO i1 i2 a b) :
    Turn P w K (.Tuple elts kk tpos) (ItX K k1 k2 a b) [z, TI, TO, i1, i2] z (fun i h => IsZip h z TI TO .none ∧ IsPair h TI (.ref i1) (.ref i2) ∧ (∃ x y, IsPair h TO x y) ∧ ZI k1 h i1 a i ∧ ZI k2 h i2 b i) where
  mem := by simp
  obj := fun i h ⟨gz, gI, ⟨x, y, gO⟩, p1, p2⟩ c hc => by
    obtain ⟨o1, f1, e1, d1⟩ := p1.obj
    obtain ⟨o2, f2, e2, d2⟩ := p2.obj
    rcases five hc with q | q | q | q | q <;> rw [q]
    · exact ⟨_, gz, fun v q => nomatch q⟩
    · exact ⟨_, gI, fun v q => nomatch q⟩
    · exact ⟨_, gO, fun v q => nomatch q⟩
    · exact ⟨o1, e1, fun v q => by rw [d1] at q; cases q⟩
    · exact ⟨o2, e2, fun v q => by rw [d2] at q; cases q⟩
  keep := fun i h h' ⟨gz, gI, ⟨x, y, gO⟩, p1, p2⟩ k => ⟨k z (by simp) _ gz, k TI (by simp) _ gI, ⟨x, y, k TO (by simp) _ gO⟩, p1.at fun o q => k i1 (by simp) o q, p2.at fun o q => k i2 (by simp) o q⟩
  item := by
    intro X hP hw hK hc i pins s σ H E I hf ⟨gz, gI, ⟨x0, y0, gO⟩, p1, p2⟩ ⟨xs, ys, x, y, sx, sy, ex, ey⟩
    subst hP hw hK
    obtain ⟨as, ra, qa⟩ := sx.get I
    obtain ⟨bs, rb, qb⟩ := sy.get I
    obtain ⟨u, hu, ru⟩ := ra.get ex
    obtain ⟨v, hv, rv⟩ := rb.get ey
    have ltz : z < s.heap.objs.size := Heap.lt_size gz
    refine zx_next D gz gI gO p1 p2 qa qb (x := u) (y := v) (by simpa using hu) (by simpa using hv) fun g gz' gO' p1' p2' gT keep => ⟨_, rfl, wpAny_letOwnedTupleGo_zip (s := { s with heap := g }) gz' fun g2 gz2 sb => ?_⟩
    have gT2 : g2.get? s.heap.objs.size = some { cls := .type "tuple", data := .seq #[u, v] } := (sb.2 _ (Nat.ne_of_gt ltz)).trans gT
    have ok : ObjOk X.prog X.w (upd H s.heap.objs.size (.tup [x, y])) g2 s.heap.objs.size (.tup [x, y]) := ⟨by show 2 ≤ sizeLine; decide, [u, v], .cons ru (.cons rv .nil), ⟨_, gT2, rfl, _, rfl⟩⟩
    have J : L2.Inv X pins σ (upd H s.heap.objs.size (.tup [x, y])) { s with heap := g2 } :=
      I.turnedNew (t' := s.toks) (ch := [z, TI, TO, i1, i2]) (fun c o nb q => (sb.2 c (fun e => nb (by simp [e]))).trans (keep c o (fun e => nb (by simp [e])) (fun e => nb (by simp [e])) (fun e => nb (by simp [e])) (fun e => nb (by simp [e])) q)) hf (Nat.le_refl _) ok
    refine ⟨.ref s.heap.objs.size, _, J, rfl, ⟨_, x, y, rfl, I.hok.fresh (Nat.le_refl _), rfl, fun l hl => by rw [SQ.inj I hl sx]; exact ex, fun l hl => by rw [SQ.inj I hl sy]; exact ey⟩, ⟨gz2, (sb.2 _ D.TIz).trans (keep _ _ D.TIz D.TITO D.TIi1 D.TIi2 gI), ⟨u, v, (sb.2 _ D.TOz).trans gO'⟩, p1'.at fun o q => (sb.2 _ D.i1z).trans q, p2'.at fun o q => (sb.2 _ D.i2z).trans q⟩, fun c hcm => ?_⟩
    have lt : c < s.heap.objs.size := by
      obtain ⟨o1, f1, e1, _⟩ := p1.obj
      obtain ⟨o2, f2, e2, _⟩ := p2.obj
      rcases five hcm with q | q | q | q | q <;> rw [q]
      · exact ltz
      · exact Heap.lt_size gI
      · exact Heap.lt_size gO
      · exact Heap.lt_size e1
      · exact Heap.lt_size e2
    rw [upd_ne (Nat.ne_of_lt lt)]; exact (hf c hcm).1
  done := by
    intro X hP hw hK hc i pins s σ H E I hf ⟨gz, gI, ⟨x0, y0, gO⟩, p1, p2⟩ ⟨xs, ys, sx, sy, en⟩
    subst hP hw hK
    obtain ⟨as, ra, qa⟩ := sx.get I
    obtain ⟨bs, rb, qb⟩ := sy.get I
    have la := ra.length
    have lb := rb.length
    have en' : as.toArray[i]? = none ∨ bs.toArray[i]? = none := by
      rcases en with q | q
      · exact .inl (by simp; omega)
      · exact .inr (by simp; omega)
    exact zx_done (I.ok.hd hc) D gz gI gO p1 p2 qa qb en' fun g keep => ⟨rfl, I.turnedL (t' := s.toks) (ch := [z, TI, TO, i1, i2]) (fun c o nb q => keep c o (fun e => nb (by simp [e])) (fun e => nb (by simp [e])) (fun e => nb (by simp [e])) (fun e => nb (by simp [e])) q) hf⟩
  self := fun A i s Q E st h => wpAny_pyIter_zip st.1 h
/-! the call -/
def iob (k : Kd) (a : Addr) : Obj := match k with
  | .l => { cls := .type "list_iterator", data := .fields #[.ref a, .int 0 0] }
  | .t => { cls := .type "tuple_iterator", data := .fields #[.ref a, .int 0 0] }
abbrev zh1 (k1 : Kd) (h : Heap) (a : Addr) : Heap := h.push (iob k1 a)
abbrev zh2 (k1 k2 : Kd) (h : Heap) (a b : Addr) : Heap := (zh1 k1 h a).push (iob k2 b)
abbrev zh3 (k1 k2 : Kd) (h : Heap) (a b : Addr) : Heap := (zh2 k1 k2 h a b).push { cls := .type "tuple", data := .seq #[.ref h.objs.size, .ref (zh1 k1 h a).objs.size] }
abbrev zh4 (k1 k2 : Kd) (h : Heap) (a b : Addr) : Heap := (zh3 k1 k2 h a b).push { cls := .type "tuple", data := .seq #[.none, .none] }
abbrev zh5 (k1 k2 : Kd) (h : Heap) (a b : Addr) : Heap := (zh4 k1 k2 h a b).push { cls := .type "zip", data := .fields #[.none, .bool false, .bool false, .ref (zh2 k1 k2 h a b).objs.size, .ref (zh3 k1 k2 h a b).objs.size] }
theorem ZQ.push {k : Kd} {h : Heap} {a : Addr} {xs : Array Value} (x : ZQ k h a xs) (o : Obj) : ZQ k (h.push o) a xs := by
  cases k with
  | l => exact Heap.IsList.push x _
  | t => exact Heap.IsTuple.push x _
theorem ZQ.iter {prog : Program} {w : World} {A : Around} {E : Value → Shared → Prop} {s : Shared} {k : Kd} {a : Addr} {xs : Array Value} {Q : Value → Shared → Prop} (x : ZQ k s.heap a xs) (h : Q (.ref s.heap.objs.size) { s with heap := s.heap.push (iob k a) }) : wpAny (model prog w) A (pyIter (.ref a)) Q E s := by
  cases k with
  | l => exact wpAny_pyIter_list x h
  | t => exact wpAny_pyIter_tuple x h
theorem meets_x (k1 k2 : Kd) (a b : Addr) (xs ys : Array Value) : Meets (Builtin.«zip.__new__» ⟨[.type "zip", .ref a, .ref b], []⟩) (fun _ R s => ZQ k1 s.heap a xs ∧ ZQ k2 s.heap b ys ∧ R (.ok (.ret (.ref (zh4 k1 k2 s.heap a b).objs.size))) { s with heap := zh5 k1 k2 s.heap a b }) :=
  .of_wp fun prog w A R s h => by
    obtain ⟨hp, g, d, tk, os⟩ := s
    obtain ⟨q1, q2, h⟩ := h
    have hsub := sub_zip
    have q1' : ZQ k1 (Shared.heap ⟨hp, g, d, tk, os⟩) a xs := q1
    have q2' : ZQ k2 (Shared.heap ⟨hp.push (iob k1 a), g, d, tk, os⟩) b ys := q2.push _
    wp_walk using ZQ.iter q1', ZQ.iter q2'
    exact ⟨_, rfl, h⟩
theorem call_x {prog : Program} {w : World} {A : Around} {E : Value → Shared → Prop} {s : Shared} {k1 k2 : Kd} {a b : Addr} {xs ys : Array Value} {Q : Value → Shared → Prop} (q1 : ZQ k1 s.heap a xs) (q2 : ZQ k2 s.heap b ys)
    (h : ∀ g, IsZip g (s.heap.objs.size + 4) (s.heap.objs.size + 2) (s.heap.objs.size + 3) .none → IsPair g (s.heap.objs.size + 2) (.ref s.heap.objs.size) (.ref (s.heap.objs.size + 1)) → IsPair g (s.heap.objs.size + 3) .none .none →
      ZI k1 g s.heap.objs.size a 0 → ZI k2 g (s.heap.objs.size + 1) b 0 → (∀ c o, s.heap.get? c = some o → g.get? c = some o) → Q (.ref (s.heap.objs.size + 4)) { s with heap := g }) : wpAny (model prog w) A (call (.type "zip") [.ref a, .ref b]) Q E s := by
  refine callType_new F.called_zip (by decide) (F.typeCall_zip_2 _ _) (F.newCall_zip_2 _ _) (fun obj => F.args_object_init_3 obj _ _) F.entry_zip_new (meets_x k1 k2 a b xs ys) ⟨q1, q2, ?_⟩
  have n1 : (zh1 k1 s.heap a).objs.size = s.heap.objs.size + 1 := Heap.size_push ..
  have n2 : (zh2 k1 k2 s.heap a b).objs.size = s.heap.objs.size + 2 := by rw [Heap.size_push, n1]
  have n3 : (zh3 k1 k2 s.heap a b).objs.size = s.heap.objs.size + 3 := by rw [Heap.size_push, n2]
  have n4 : (zh4 k1 k2 s.heap a b).objs.size = s.heap.objs.size + 4 := by rw [Heap.size_push, n3]
  have old : ∀ c o, s.heap.get? c = some o → (zh5 k1 k2 s.heap a b).get? c = some o := fun c o x => Heap.get?_push_of_some _ (Heap.get?_push_of_some _ (Heap.get?_push_of_some _ (Heap.get?_push_of_some _ (Heap.get?_push_of_some _ x))))
  have fr1 : (iob k1 a).isFreed = false := by cases k1 <;> rfl
  have fr2 : (iob k2 b).isFreed = false := by cases k2 <;> rfl
  have e5 : (zh5 k1 k2 s.heap a b).get? (zh4 k1 k2 s.heap a b).objs.size = some _ := Heap.get?_push_size _ rfl
  have e4 : (zh5 k1 k2 s.heap a b).get? (zh3 k1 k2 s.heap a b).objs.size = some _ := Heap.get?_push_of_some _ (Heap.get?_push_size _ rfl)
  have e3 : (zh5 k1 k2 s.heap a b).get? (zh2 k1 k2 s.heap a b).objs.size = some _ := Heap.get?_push_of_some _ (Heap.get?_push_of_some _ (Heap.get?_push_size _ rfl))
  have e2 : (zh5 k1 k2 s.heap a b).get? (zh1 k1 s.heap a).objs.size = some (iob k2 b) := Heap.get?_push_of_some _ (Heap.get?_push_of_some _ (Heap.get?_push_of_some _ (Heap.get?_push_size _ fr2)))
  have e1 : (zh5 k1 k2 s.heap a b).get? s.heap.objs.size = some (iob k1 a) := Heap.get?_push_of_some _ (Heap.get?_push_of_some _ (Heap.get?_push_of_some _ (Heap.get?_push_of_some _ (Heap.get?_push_size _ fr1))))
  show _ ∧ _
  rw [n2, n3, n4] at e5
  rw [n1, n2] at e3
  rw [n3] at e4
  rw [n1] at e2
  rw [n4]
  have c1 : ZI k1 (zh5 k1 k2 s.heap a b) s.heap.objs.size a 0 := by cases k1 <;> exact ⟨_, e1, rfl, rfl⟩
  have c2 : ZI k2 (zh5 k1 k2 s.heap a b) (s.heap.objs.size + 1) b 0 := by cases k2 <;> exact ⟨_, e2, rfl, rfl⟩
  exact ⟨⟨_, e5, rfl⟩, h _ e5 e3 e4 c1 c2 old⟩
def iZX (K : PySem.W.Frag) (ta : TA) : TI := fun σ H R => ta σ H fun vs H1 => ∃ k1 k2 a b xs ys, vs = [.ref a, .ref b] ∧ SQ K k1 H1 a xs ∧ SQ K k2 H1 b ys ∧ R (ItX K k1 k2 a b) H1
theorem pi_zx {X : Cx} {e e2 : Expr} {ta : TA} {p pos tpos : Pos} {elts : List Expr} {kk : Nat} (hg : Gl X "zip") (hm : X.mg "zip" = none) (ha : PA X [e, e2] ta)
    (hs : starEach [e, e2] X.env = (false, eval e X.env) :: starEach [e2] X.env) (hpl : (backTo pos (starEach [e2] X.env)).any (·.1) = false) : PI X (.Tuple elts kk tpos) (.Call (.Name "zip" p) [e, e2] [] pos) (iZX X.K ta) := by
  refine ⟨fun pins s σ H R I h => Call_ (ld_blt I hg hm PyProof.Rows.boot_zip (PyProof.Rows.callWith_type1 (thn (ha.run pos pins s σ H _ I h) fun us s1 ⟨vs, H1, I1, r1, q⟩ => ?_) hs hpl))⟩
  obtain ⟨k1, k2, a, b, xs, ys, ev, sx, sy, q⟩ := q
  subst ev
  cases r1 with
  | cons r rr =>
    cases rr with
    | cons r' rr =>
      cases rr; cases r; cases r'
      obtain ⟨as, ra, qa⟩ := sx.get I1
      obtain ⟨bs, rb, qb⟩ := sy.get I1
      refine call_x qa qb fun g gz gI gO c1 c2 keep => wpAny_pyIter_zip gz ?_
      have J : L2.Inv X pins σ H1 { s1 with heap := g } := I1.kept (t' := s1.toks) keep
      refine ⟨s1.heap.objs.size + 4, [s1.heap.objs.size + 4, s1.heap.objs.size + 2, s1.heap.objs.size + 3, s1.heap.objs.size, s1.heap.objs.size + 1], _, _, H1, rfl, J, turn_x (PySem.W.ktu_apart s1.heap.objs.size a b qa.lt qb.lt), ⟨gz, gI, ⟨_, _, gO⟩, c1, c2⟩, fun c hc => ?_, q⟩
      have le : s1.heap.objs.size ≤ c := by rcases five hc with e | e | e | e | e <;> rw [e] <;> first | exact Nat.le_add_right _ _ | exact Nat.le_refl _
      exact I1.fpOk le (I1.hok.fresh le)
/-! by data -/
theorem walks_x {K : PySem.W.Frag} {k1 k2 : Kd} {a b : Addr} {xs ys : List V} {as bs : List D} : Walks K (ItX K k1 k2 a b) (List.zipWith (fun x y => .tup [x, y]) as bs) (fun H => SQ K k1 H a xs ∧ SQ K k2 H b ys ∧ RepL K H xs as ∧ RepL K H ys bs ∧ (k1 = .l → FzL K H a xs) ∧ (k2 = .l → FzL K H b ys)) where
  stay := fun H H' ⟨h1, h2, r1, r2, f1, f2⟩ e => by
    refine ⟨?_, ?_, r1.ext e, r2.ext e, fun z => e.fzl (f1 z), fun z => e.fzl (f2 z)⟩
    · cases k1 with
      | l => exact (e.fzl (f1 rfl)).sql
      | t => exact e.sqt h1
    · cases k2 with
      | l => exact (e.fzl (f2 rfl)).sql
      | t => exact e.sqt h2
  go := fun i H ⟨h1, h2, r1, r2, _, _⟩ hi => by
    rw [List.length_zipWith, ← r1.length, ← r2.length] at hi
    exact ⟨xs, ys, xs[i]'(by omega), ys[i]'(by omega), h1, h2, List.getElem?_eq_getElem _, List.getElem?_eq_getElem _⟩
  yld := fun i H x H' d ⟨h1, h2, r1, r2, _, _⟩ ed ⟨T, u, v, ex, hT, eH, f, g⟩ => by
    subst ex eH
    rw [List.getElem?_zipWith] at ed
    cases e1 : as[i]? with
    | none => rw [e1] at ed; simp at ed
    | some p =>
      cases e2 : bs[i]? with
      | none => rw [e1, e2] at ed; simp at ed
      | some q =>
        rw [e1, e2] at ed
        have ed' : D.tup [p, q] = d := by simpa using ed
        subst ed'
        obtain ⟨u', a1, a2⟩ := r1.get e1
        obtain ⟨v', b1, b2⟩ := r2.get e2
        have := f xs h1
        rw [a1] at this
        cases this
        have := g ys h2
        rw [b1] at this
        cases this
        exact ⟨Ext.new hT, .tup (.of upd_same) (.cons (a2.ext (Ext.new hT)) (.cons (b2.ext (Ext.new hT)) .nil)), fun _ r => r.new hT, fun c zs e => by rw [upd_ne (ne_of_none e hT)]; exact e⟩
  stop := fun i H ⟨h1, h2, r1, r2, _, _⟩ hi => by
    rw [List.length_zipWith, ← r1.length, ← r2.length] at hi
    exact ⟨xs, ys, h1, h2, by omega⟩
/-- a list or a tuple that stays -/
def fixOf (d : D) : Option (List D) := match d with
  | .tup ds => some ds
  | .lst ds => some ds
  | _ => none
def wZip (was : WA) : WI := fun env S P X => was env S (fun ds S' => match ds with
  | [x, y] => match fixOf x, fixOf y with
    | some as, some bs => P (List.zipWith (fun x y => .tup [x, y]) as bs) S'
    | _, _ => False
  | _ => False) X
theorem fix_rep {K : PySem.W.Frag} {H : Hp} {v : V} {d : D} {ds : List D} (r : Rep K H v d) (h : fixOf d = some ds) : ∃ k p vs, v = .ref p ∧ SQ K k H p vs ∧ RepL K H vs ds ∧ (k = .l → FzL K H p vs) := by
  cases r with
  | tup h1 t => cases h; exact ⟨.t, _, _, rfl, h1, t, fun z => by cases z⟩
  | lst h1 t => cases h; exact ⟨.l, _, _, rfl, h1.sql, t, fun _ => h1⟩
  | _ => cases h
theorem ii_zip {X : Cx} {W : WX} {a b : Expr} {was : WA} {p pos tpos : Pos} {elts : List Expr} {kk : Nat} (hg : Gl X "zip") (hm : X.mg "zip" = none) (ha : IA X W [a, b] was)
    (hs : starEach [a, b] X.env = (false, eval a X.env) :: starEach [b] X.env) (hpl : (backTo pos (starEach [b] X.env)).any (·.1) = false) : II X W (.Tuple elts kk tpos) (.Call (.Name "zip" p) [a, b] [] pos) (wZip was) := by
  refine (pi_zx hg hm ha hs hpl).of fun σ H R ⟨env, S, P, x, re, rs, h, hx, hq⟩ => ?_
  refine ⟨env, S, _, x, re, rs, h, fun ds S' vs H' p' _ e1 r s => ?_, hx⟩
  dsimp only at p'
  split at p'
  · rename_i d1 d2
    split at p'
    · rename_i as bs e2 e3
      obtain ⟨v, u, rfl, r1, r2⟩ := rl2 r
      obtain ⟨k1, q1, xs, rfl, s1, t1, f1⟩ := fix_rep r1 e2
      obtain ⟨k2, q2, ys, rfl, s2, t2, f2⟩ := fix_rep r2 e3
      exact ⟨k1, k2, q1, q2, xs, ys, rfl, s1, s2, hq _ S' _ H' _ p' e1 s ⟨s1, s2, t1, t2, f1, f2⟩ walks_x⟩
    · exact p'.elim
  · exact p'.elim
/-! reversed, enumerate -/
theorem walks_rl {K : PySem.W.Frag} {p : Addr} {vs : List V} {ds : List D} (hl : vs.length = ds.length) : Walks K (Itv K p vs.length) ds.reverse (fun H => FzL K H p vs ∧ RepL K H vs ds) where
  stay := fun H H' ⟨h, r⟩ e => ⟨e.fzl h, r.ext e⟩
  go := fun i H ⟨h, r⟩ hi => by
    rw [List.length_reverse] at hi
    exact ⟨by omega, vs, vs[vs.length - 1 - i]'(by omega), h.sql, List.getElem?_eq_getElem _⟩
  yld := fun i H x H' d ⟨h, r⟩ ed ⟨e, f⟩ => by
    subst e
    have hi : i < ds.length := by
      have := (List.getElem?_eq_some_iff.mp ed).1
      rwa [List.length_reverse] at this
    rw [List.getElem?_reverse hi, ← hl] at ed
    obtain ⟨v, ev, rv⟩ := r.get ed
    have := f vs h.sql
    rw [ev] at this
    cases this
    exact ⟨Ext.refl _, rv, fun _ z => z, fun _ _ z => z⟩
  stop := fun i H ⟨h, r⟩ hi => by
    rw [List.length_reverse] at hi
    show vs.length ≤ i
    omega
theorem walks_rt {K : PySem.W.Frag} {p : Addr} {vs : List V} {ds : List D} (hl : vs.length = ds.length) : Walks K (RT.ItvT K p vs.length) ds.reverse (fun H => SqT K H p vs ∧ RepL K H vs ds) where
  stay := fun H H' ⟨h, r⟩ e => ⟨e.sqt h, r.ext e⟩
  go := fun i H ⟨h, r⟩ hi => by
    rw [List.length_reverse] at hi
    exact ⟨by omega, vs, vs[vs.length - 1 - i]'(by omega), h, List.getElem?_eq_getElem _⟩
  yld := fun i H x H' d ⟨h, r⟩ ed ⟨e, f⟩ => by
    subst e
    have hi : i < ds.length := by
      have := (List.getElem?_eq_some_iff.mp ed).1
      rwa [List.length_reverse] at this
    rw [List.getElem?_reverse hi, ← hl] at ed
    obtain ⟨v, ev, rv⟩ := r.get ed
    have := f vs h
    rw [ev] at this
    cases this
    exact ⟨Ext.refl _, rv, fun _ z => z, fun _ _ z => z⟩
  stop := fun i H ⟨h, r⟩ hi => by
    rw [List.length_reverse] at hi
    show vs.length ≤ i
    omega
def wRevI (wa : WE) : WI := fun env S P X => wa env S (fun d S' => match fixOf d with
  | some ds => P ds.reverse S'
  | none => False) X
theorem ii_rev {X : Cx} {W : WX} {tg a : Expr} {wa : WE} {p pos : Pos} (hg : Gl X "reversed") (hm : X.mg "reversed" = none) (ha : IE X W a wa) (hs : starEach [a] X.env = (false, eval a X.env) :: starEach [] X.env) : II X W tg (.Call (.Name "reversed" p) [a] [] pos) (wRevI wa) := by
  refine (RT.pi_revA hg hm ha hs).of fun σ H R ⟨env, S, P, x, re, rs, h, hx, hq⟩ => ?_
  refine ⟨env, S, _, x, re, rs, h, fun d S' v H' p' e1 r s => ?_, hx⟩
  dsimp only at p'
  cases r with
  | tup h1 t =>
    exact ⟨_, _, rfl, .inr ⟨h1, hq _ S' _ H' _ p' e1 s ⟨h1, t⟩ (walks_rt t.length)⟩⟩
  | lst h1 t =>
    exact ⟨_, _, rfl, .inl ⟨h1.sql, hq _ S' _ H' _ p' e1 s ⟨h1, t⟩ (walks_rl t.length)⟩⟩
  | _ => exact p'.elim
def enumD (ds : List D) : List D := ds.mapIdx fun i d => .tup [.int (i : Nat), d]
section
variable {prog : Program} {w : World} {A : Around} {E : Value → Shared → Prop} {s : Shared} {e it c : Addr} {n : Nat} {xs : Array Value} {x old : Value} {k : Kd}
theorem eo_item {Q : Value → Shared → Prop} (ge : IsEnum s.heap e it n old) (p : ZI k s.heap it c n) (q : ZQ k s.heap c xs) (ex : xs[n]? = some x) (ne : e ≠ it)
    (hQ : ∀ g, IsEnumOut g e it ((n : Int) + 1) x s.heap.objs.size → ZI k g it c (n + 1) → g.get? s.heap.objs.size = some { cls := .type "tuple", data := .seq #[.int n s.toks, x] } →
      (∀ b o, b ≠ e → b ≠ it → s.heap.get? b = some o → g.get? b = some o) → Q (.ref s.heap.objs.size) { s with heap := g, toks := s.toks + 1 }) :
    wpAny (model prog w) A (Builtin.«enumerate.__next__» ⟨[.ref e], []⟩) (fun fin s' => ∃ v, fin = .done (.ret v) ∧ Q v s') E s := by
  obtain ⟨hp, g0, d, tk, os⟩ := s
  show wpAny _ _ (field (.ref e) 2 >>= _) _ _ _; refine wpAny_bind (wpAny_field ge rfl (x := .ref it) rfl (wpAny_bind (p.next q ex fun g1 p1 b1 => ?_)))
  replace b1 : Heap.SameBut it hp g1 := b1
  have ge1 : IsEnum g1 e it n old := (b1.2 e ne).trans ge
  show wpAny _ _ (field (.ref e) 3 >>= _) _ _ ⟨g1, g0, d, tk, os⟩; refine wpAny_bind (wpAny_field ge1 rfl (x := rawInt n) rfl ?_)
  show wpAny _ _ (field (.ref e) 4 >>= _) _ _ ⟨g1, g0, d, tk, os⟩; refine wpAny_bind (wpAny_field ge1 rfl (x := .none) rfl ?_)
  show wpAny _ _ (mkInt n >>= _) _ _ ⟨g1, g0, d, tk, os⟩; refine wpAny_bind (wpAny_mkInt ?_)
  show wpAny _ _ (setField (.ref e) 3 (rawInt ((n : Int) + 1)) >>= _) _ _ ⟨g1, g0, d, tk + 1, os⟩; refine wpAny_bind (wpAny_setField_rec ge1 (by simp) fun g2 ge2 b2 => ?_)
  replace b2 : Heap.SameBut e g1 g2 := b2
  replace ge2 : IsEnum g2 e it ((n : Int) + 1) old := ge2
  show wpAny _ _ (setField (.ref e) 4 .none >>= _) _ _ ⟨g2, g0, d, tk + 1, os⟩; refine wpAny_bind (wpAny_setField_rec ge2 (by simp) fun g3 ge3 b3 => ?_)
  replace b3 : Heap.SameBut e g2 g3 := b3
  replace ge3 : IsEnum g3 e it ((n : Int) + 1) old := ge3
  show wpAny _ _ (newTuple [.int n tk, x] >>= _) _ _ ⟨g3, g0, d, tk + 1, os⟩; refine wpAny_bind (wpAny_newTuple ?_)
  have sz : g3.objs.size = hp.objs.size := by rw [b3.1, b2.1, b1.1]
  have lt : e < hp.objs.size := Heap.lt_size ge
  have ge4 : IsEnum (g3.push { cls := .type "tuple", data := .seq #[.int n tk, x] }) e it ((n : Int) + 1) old := Heap.get?_push_of_some _ ge3
  have gT : (g3.push { cls := .type "tuple", data := .seq #[.int n tk, x] }).get? hp.objs.size = some { cls := .type "tuple", data := .seq #[.int n tk, x] } := by rw [← sz]; exact Heap.get?_push_size _ rfl
  have old4 : ∀ b o, b ≠ e → b ≠ it → hp.get? b = some o → (g3.push { cls := .type "tuple", data := .seq #[.int n tk, x] }).get? b = some o := fun b o n1 n2 y => Heap.get?_push_of_some _ (b3.extBut b o n1 (b2.extBut b o n1 (b1.extBut b o n2 y)))
  have p4 : ZI k (g3.push { cls := .type "tuple", data := .seq #[.int n tk, x] }) it c (n + 1) := ((p1.but b2.extBut ne.symm).but b3.extBut ne.symm).at fun o y => Heap.get?_push_of_some _ y
  rw [sz]
  generalize g3.push { cls := .type "tuple", data := .seq #[.int n tk, x] } = g4 at *
  show wpAny _ _ (Builtin.SmallTypes.ownedTupleIsFree (.ref e) >>= _) _ _ ⟨g4, g0, d, tk + 1, os⟩; refine wpAny_bind ?_; unfold Builtin.SmallTypes.ownedTupleIsFree
  refine wpAny_bind (wpAny_field ge4 rfl (x := .none) rfl (wpAny_pure ?_)); simp only [if_true]
  refine wpAny_bind (wpAny_rule (wpAny_bind (wpAny_field ge4 rfl (x := old) rfl (wpAny_bind (wpAny_setField_rec ge4 (by simp) fun g5 ge5 b5 => ?_)))))
  replace b5 : Heap.SameBut e g4 g5 := b5
  replace ge5 : IsEnum g5 e it ((n : Int) + 1) x := ge5
  show wpAny _ _ (Builtin.SmallTypes.ownedTupleHandOut (.ref e) (.ref hp.objs.size) >>= _) _ _ ⟨g5, g0, d, tk + 1, os⟩; refine wpAny_bind ?_; unfold Builtin.SmallTypes.ownedTupleHandOut
  refine wpAny_bind (wpAny_setField_rec ge5 (by simp) fun g6 ge6 b6 => ?_)
  replace b6 : Heap.SameBut e g5 g6 := b6
  replace ge6 : IsEnumOut g6 e it ((n : Int) + 1) x hp.objs.size := ge6
  refine wpAny_setField_rec ge6 (by simp) fun g7 ge7 b7 => ?_
  replace b7 : Heap.SameBut e g6 g7 := b7
  refine wpAny_bind (wpAny_letGo (wpAny_pure ⟨_, rfl, hQ g7 ge7 (((p4.but b5.extBut ne.symm).but b6.extBut ne.symm).but b7.extBut ne.symm) ?_ ?_⟩))
  · exact b7.extBut _ _ (Nat.ne_of_gt lt) (b6.extBut _ _ (Nat.ne_of_gt lt) (b5.extBut _ _ (Nat.ne_of_gt lt) gT))
  · exact fun b o n1 n2 y => b7.extBut b o n1 (b6.extBut b o n1 (b5.extBut b o n1 (old4 b o n1 n2 y)))
theorem eo_next {Q : Option Value → Shared → Prop} (ge : IsEnum s.heap e it n old) (p : ZI k s.heap it c n) (q : ZQ k s.heap c xs) (ex : xs[n]? = some x) (ne : e ≠ it)
    (hQ : ∀ g, IsEnumOut g e it ((n : Int) + 1) x s.heap.objs.size → ZI k g it c (n + 1) → g.get? s.heap.objs.size = some { cls := .type "tuple", data := .seq #[.int n s.toks, x] } →
      (∀ b o, b ≠ e → b ≠ it → s.heap.get? b = some o → g.get? b = some o) → Q (some (.ref s.heap.objs.size)) { s with heap := g, toks := s.toks + 1 }) : wpAny (model prog w) A (pyNext (.ref e)) Q E s := by
  have ty : s.TypeIs (.ref e) "enumerate" := ⟨_, ge, rfl⟩
  unfold pyNext
  exact wpAny_bind (wpAny_attempt (wpAny_callSpecial?_slot (name := Str.ofString "__next__") ty F.slot_enumerate_next (wpAny_call_entry F.slot_enumerate_next ty F.entry_enumerate_next (eo_item ge p q ex ne fun g c1 c2 c3 c4 => wpAny_pure (hQ g c1 c2 c3 c4)) (F.args_enumerate_next_1 _))))
theorem eo_done {Q : Option Value → Shared → Prop} (hh : A.handled = none) (ge : IsEnum s.heap e it n old) (p : ZI k s.heap it c n) (q : ZQ k s.heap c xs) (en : xs[n]? = none)
    (hQ : ∀ g, Heap.ExtBut it s.heap g → Q none { s with heap := g }) : wpAny (model prog w) A (pyNext (.ref e)) Q E s := by
  have ty : s.TypeIs (.ref e) "enumerate" := ⟨_, ge, rfl⟩
  unfold pyNext
  refine wpAny_bind (wpAny_attempt (wpAny_callSpecial?_slot (name := Str.ofString "__next__") ty F.slot_enumerate_next (wpAny_call_entry F.slot_enumerate_next ty F.entry_enumerate_next ?_ (F.args_enumerate_next_1 _))))
  show wpAny _ _ (field (.ref e) 2 >>= _) _ _ _; refine wpAny_bind (wpAny_field ge rfl (x := .ref it) rfl (wpAny_bind (p.stop hh q en fun g y keep ⟨o, ho, hc⟩ => ?_)))
  exact wpAny_bind (wpAny_isInstance (T := "StopIteration") (b := true) ⟨o, ho, hc⟩ isSubtype_stop (wpAny_pure (hQ _ keep)))
theorem meets_en (k : Kd) (a : Addr) (xs : Array Value) : Meets (Builtin.«enumerate.__new__» ⟨[.type "enumerate", .ref a], []⟩) (fun _ R s => ZQ k s.heap a xs ∧
    R (.ok (.ret (.ref (s.heap.push (iob k a)).objs.size))) { s with heap := (s.heap.push (iob k a)).push { cls := .type "enumerate", data := .fields #[.none, .bool false, .ref s.heap.objs.size, rawInt 0, .none, .none] } }) :=
  .of_wp fun prog w A R s h => by
    obtain ⟨hp, g, d, tk, os⟩ := s
    obtain ⟨q1, h⟩ := h
    have hsub := sub_enumerate
    have q1' : ZQ k (Shared.heap ⟨hp, g, d, tk, os⟩) a xs := q1
    wp_walk
    refine wpAny_stack_any fun st => wpAny_pure ?_; split
    · rename_i c _ _ _ _ _
      cases (c == Value.type "enumerate")
      · wp_walk using ZQ.iter q1'
        exact ⟨_, rfl, h⟩
      · wp_walk using ZQ.iter q1'
        exact ⟨_, rfl, h⟩
    · wp_walk using ZQ.iter q1'
      exact ⟨_, rfl, h⟩
theorem call_en {a : Addr} {Q : Value → Shared → Prop} (q : ZQ k s.heap a xs) (h : ∀ g, IsEnum g (s.heap.objs.size + 1) s.heap.objs.size 0 .none → ZI k g s.heap.objs.size a 0 → (∀ b o, s.heap.get? b = some o → g.get? b = some o) → Q (.ref (s.heap.objs.size + 1)) { s with heap := g }) :
    wpAny (model prog w) A (call (.type "enumerate") [.ref a]) Q E s := by
  refine callType_new F.called_enumerate (by decide) (F.typeCall_enumerate_1 _) (F.newCall_enumerate_1 _) (fun obj => F.args_object_init_2 obj _) F.entry_enumerate_new (meets_en k a xs) ⟨q, ?_⟩
  have n1 : (s.heap.push (iob k a)).objs.size = s.heap.objs.size + 1 := Heap.size_push ..
  have fr1 : (iob k a).isFreed = false := by cases k <;> rfl
  have e2 : ((s.heap.push (iob k a)).push { cls := .type "enumerate", data := .fields #[.none, .bool false, .ref s.heap.objs.size, rawInt 0, .none, .none] }).get? (s.heap.push (iob k a)).objs.size = some _ := Heap.get?_push_size _ rfl
  have e1 : ((s.heap.push (iob k a)).push { cls := .type "enumerate", data := .fields #[.none, .bool false, .ref s.heap.objs.size, rawInt 0, .none, .none] }).get? s.heap.objs.size = some (iob k a) := Heap.get?_push_of_some _ (Heap.get?_push_size _ fr1)
  have c1 : ZI k ((s.heap.push (iob k a)).push { cls := .type "enumerate", data := .fields #[.none, .bool false, .ref s.heap.objs.size, rawInt 0, .none, .none] }) s.heap.objs.size a 0 := by cases k <;> exact ⟨_, e1, rfl, rfl⟩
  show _ ∧ _
  rw [n1] at e2 ⊢
  exact ⟨⟨_, e2, rfl⟩, h _ e2 c1 fun b o y => Heap.get?_push_of_some _ (Heap.get?_push_of_some _ y)⟩
end
/-- the pairs of place and item -/
def ItE (K : PySem.W.Frag) (k : Kd) (a : Addr) : It :=
  ⟨fun i H => ∃ (xs : List V) (x : V), SQ K k H a xs ∧ xs[i]? = some x, fun i H v H' => ∃ T x, v = .ref T ∧ H T = none ∧ H' = upd H T (.tup [.int (i : Nat), x]) ∧ ∀ xs, SQ K k H a xs → xs[i]? = some x, fun i H => ∃ xs : List V, SQ K k H a xs ∧ xs.length ≤ i⟩
theorem two_of {e it c : Addr} (h : c ∈ [e, it]) : c = e ∨ c = it := by simpa using h
theorem turn_en {P : Program} {w : World} {K : PySem.W.Frag} {elts : List Expr} {kk : Nat} {tpos : Pos} {k : Kd} (a e it : Addr) :
    Turn P w K (.Tuple elts kk tpos) (ItE K k a) [e, it] e (fun i h => (∃ old, IsEnum h e it ((i : Nat) : Int) old) ∧ ZI k h it a i ∧ e ≠ it) where
  mem := by simp
  obj := fun i h ⟨⟨old, ge⟩, p, _⟩ b hb => by
    obtain ⟨o, f, e1, d⟩ := p.obj
    rcases two_of hb with z | z <;> rw [z]
    · exact ⟨_, ge, fun v q => nomatch q⟩
    · exact ⟨o, e1, fun v q => by rw [d] at q; cases q⟩
  keep := fun i h h' ⟨⟨old, ge⟩, p, ne⟩ k => ⟨⟨old, k e (by simp) _ ge⟩, p.at fun o q => k it (by simp) o q, ne⟩
  item := by
    intro X hP hw hK hc i pins s σ H E I hf ⟨⟨old, ge⟩, p, ne⟩ ⟨xs, x, sx, ex⟩
    subst hP hw hK
    obtain ⟨as, ra, qa⟩ := sx.get I
    obtain ⟨u, hu, ru⟩ := ra.get ex
    have lt : e < s.heap.objs.size := Heap.lt_size ge
    obtain ⟨o1, f1, e1, _⟩ := p.obj
    have lt2 : it < s.heap.objs.size := Heap.lt_size e1
    refine eo_next ge p qa (x := u) (by simpa using hu) ne fun g ge' p' gT keep => ⟨_, rfl, wpAny_letOwnedTupleGo_enum (s := { s with heap := g, toks := s.toks + 1 }) ge' fun g2 ge2 sb => ?_⟩
    have gT2 : g2.get? s.heap.objs.size = some { cls := .type "tuple", data := .seq #[.int i s.toks, u] } := (sb.2 _ (Nat.ne_of_gt lt)).trans gT
    have ok : ObjOk X.prog X.w (upd H s.heap.objs.size (.tup [.int (i : Nat), x])) g2 s.heap.objs.size (.tup [.int (i : Nat), x]) := ⟨by show 2 ≤ sizeLine; decide, [.int i s.toks, u], .cons ⟨_, rfl⟩ (.cons ru .nil), ⟨_, gT2, rfl, _, rfl⟩⟩
    have J : L2.Inv X pins σ (upd H s.heap.objs.size (.tup [.int (i : Nat), x])) { s with heap := g2, toks := s.toks + 1 } :=
      I.turnedNew (ch := [e, it]) (fun b o nb q => (sb.2 b (fun z => nb (by simp [z]))).trans (keep b o (fun z => nb (by simp [z])) (fun z => nb (by simp [z])) q)) hf (Nat.le_refl _) ok
    refine ⟨.ref s.heap.objs.size, _, J, rfl, ⟨_, x, rfl, I.hok.fresh (Nat.le_refl _), rfl, fun l hl => by rw [SQ.inj I hl sx]; exact ex⟩, ⟨⟨u, ?_⟩, p'.at fun o q => (sb.2 it (Ne.symm ne)).trans q, ne⟩, fun b hb => ?_⟩
    · rw [show ((i + 1 : Nat) : Int) = (i : Int) + 1 by omega]; exact ge2
    · have hb' : b < s.heap.objs.size := by rcases two_of hb with z | z <;> rw [z] <;> assumption
      rw [upd_ne (Nat.ne_of_lt hb')]; exact (hf b hb).1
  done := by
    intro X hP hw hK hc i pins s σ H E I hf ⟨⟨old, ge⟩, p, ne⟩ ⟨xs, sx, en⟩
    subst hP hw hK
    obtain ⟨as, ra, qa⟩ := sx.get I
    obtain ⟨f0, f1, f2, f3, f4, f5⟩ := hf it (by simp)
    have la := ra.length
    exact eo_done (I.ok.hd hc) ge p qa (by simp; omega) fun g eb => ⟨rfl, I.turned (t' := s.toks) (fun b o hb q => eb b o hb q) f0 f1 f3 f4 f5⟩
  self := fun A i s Q E ⟨⟨_, ge⟩, _⟩ y => wpAny_pyIter_enum ge y
def iEN (K : PySem.W.Frag) (ta : TA) : TI := fun σ H R => ta σ H fun vs H1 => ∃ k a xs, vs = [.ref a] ∧ SQ K k H1 a xs ∧ R (ItE K k a) H1
theorem pi_en {X : Cx} {e : Expr} {ta : TA} {p pos tpos : Pos} {elts : List Expr} {kk : Nat} (hg : Gl X "enumerate") (hm : X.mg "enumerate" = none) (ha : PA X [e] ta) (hs : starEach [e] X.env = [(false, eval e X.env)]) : PI X (.Tuple elts kk tpos) (.Call (.Name "enumerate" p) [e] [] pos) (iEN X.K ta) := by
  refine ⟨fun pins s σ H R I h => Call_ (ld_blt I hg hm boot_enumerate (PyProof.Rows.callWith_type1 (thn (ha.run pos pins s σ H _ I h) fun us s1 ⟨vs, H1, I1, r1, q1⟩ => ?_) hs rfl))⟩
  obtain ⟨k, a, xs, ev, sx, q⟩ := q1
  subst ev
  cases r1 with
  | cons r rr =>
    cases rr; cases r
    obtain ⟨as, ra, qa⟩ := sx.get I1
    refine call_en qa fun g ge c1 keep => wpAny_pyIter_enum ge ?_
    have J : L2.Inv X pins σ H1 { s1 with heap := g } := I1.kept (t' := s1.toks) keep
    refine ⟨s1.heap.objs.size + 1, [s1.heap.objs.size + 1, s1.heap.objs.size], _, _, H1, rfl, J, turn_en a (s1.heap.objs.size + 1) s1.heap.objs.size, ⟨⟨.none, ge⟩, c1, Nat.succ_ne_self _⟩, fun b hb => ?_, q⟩
    have le : s1.heap.objs.size ≤ b := by rcases two_of hb with z | z <;> rw [z] <;> first | exact Nat.le_add_right _ _ | exact Nat.le_refl _
    exact I1.fpOk le (I1.hok.fresh le)
theorem walks_en {K : PySem.W.Frag} {k : Kd} {p : Addr} {vs : List V} {ds : List D} : Walks K (ItE K k p) (enumD ds) (fun H => SQ K k H p vs ∧ RepL K H vs ds ∧ (k = .l → FzL K H p vs)) where
  stay := fun H H' ⟨h, r, f⟩ e => by
    refine ⟨?_, r.ext e, fun z => e.fzl (f z)⟩
    cases k with
    | l => exact (e.fzl (f rfl)).sql
    | t => exact e.sqt h
  go := fun i H ⟨h, r, _⟩ hi => by
    unfold enumD at hi
    rw [List.length_mapIdx, ← r.length] at hi
    exact ⟨vs, vs[i]'hi, h, List.getElem?_eq_getElem _⟩
  yld := fun i H x H' d ⟨h, r, _⟩ ed ⟨T, u, ex, hT, eH, f⟩ => by
    subst ex eH
    unfold enumD at ed
    rw [List.getElem?_mapIdx] at ed
    cases e1 : ds[i]? with
    | none => rw [e1] at ed; cases ed
    | some q =>
      rw [e1] at ed
      cases ed
      obtain ⟨v, a1, a2⟩ := r.get e1
      have := f vs h
      rw [a1] at this
      cases this
      exact ⟨Ext.new hT, .tup (.of upd_same) (.cons (.int _) (.cons (a2.ext (Ext.new hT)) .nil)), fun _ r => r.new hT, fun c zs e => by rw [upd_ne (ne_of_none e hT)]; exact e⟩
  stop := fun i H ⟨h, r, _⟩ hi => by
    unfold enumD at hi
    rw [List.length_mapIdx, ← r.length] at hi
    exact ⟨vs, h, hi⟩
def wEnum (wa : WA) : WI := fun env S P X => wa env S (fun ds S' => match ds with
  | [d] => match fixOf d with
    | some ds => P (enumD ds) S'
    | none => False
  | _ => False) X
theorem ii_enum {X : Cx} {W : WX} {a : Expr} {was : WA} {p pos tpos : Pos} {elts : List Expr} {kk : Nat} (hg : Gl X "enumerate") (hm : X.mg "enumerate" = none) (ha : IA X W [a] was) (hs : starEach [a] X.env = [(false, eval a X.env)]) : II X W (.Tuple elts kk tpos) (.Call (.Name "enumerate" p) [a] [] pos) (wEnum was) := by
  refine (pi_en hg hm ha hs).of fun σ H R ⟨env, S, P, x, re, rs, h, hx, hq⟩ => ?_
  refine ⟨env, S, _, x, re, rs, h, fun ds S' vs H' p' _ e1 r s => ?_, hx⟩
  dsimp only at p'
  split at p'
  · rename_i d
    split at p'
    · rename_i as e2
      obtain ⟨v, rfl, r1⟩ := rl1 r
      obtain ⟨k1, q1, xs, rfl, s1, t1, f1⟩ := fix_rep r1 e2
      exact ⟨k1, q1, xs, rfl, s1, hq _ S' _ H' _ p' e1 s ⟨s1, t1, f1⟩ walks_en⟩
    · exact p'.elim
  · exact p'.elim
end PL
/-! t[:0:-1] of a tuple; xs.index(y) of a list -/
namespace PL
open PySem PySem.Spec PyProof.Rows HT L2
section
variable {prog : Program} {w : World} {A : Around} {E : Value → Shared → Prop} {s : Shared}
theorem tail_places (n : Nat) (h : 1 ≤ n) : Builtin.Slice.slicePlaces ((n : Int) - 1) 0 (-1) = n - 1 := by
  unfold Builtin.Slice.slicePlaces
  have h1 : ¬ ((-1 : Int) > 0) := by omega
  simp only [h1, if_false]
  have h2 : (-(-1 : Int)) = 1 := rfl
  rw [h2, Int.ediv_one]
  split <;> omega
theorem tail_adjust (n : Nat) (h : 1 ≤ n) : Builtin.Slice.sliceAdjust none (some 0) (-1) (n : Int) = ((n : Int) - 1, 0) := by
  unfold Builtin.Slice.sliceAdjust
  have h1 : ((-1 : Int) < 0) := by omega
  have h2 : ¬ ((0 : Int) < 0) := by omega
  simp only [h1, h2, if_true, if_false]
  refine Prod.ext rfl ?_
  show min (0 : Int) ((n : Int) - 1) = 0
  omega
theorem tail_pick (x : Value) (xs : List Value) : ((List.range xs.length).filterMap fun (m : Nat) => (x :: xs).toArray[(((x :: xs).length : Int) - 1 + (m : Int) * (-1)).toNat]?) = xs.reverse := by
  have h : ∀ k, k ≤ xs.length → ((List.range k).filterMap fun (m : Nat) => (x :: xs).toArray[(((x :: xs).length : Int) - 1 + (m : Int) * (-1)).toNat]?) = xs.reverse.take k := by
    intro k
    induction k with
    | zero => intro _; rfl
    | succ k ih =>
      intro hk
      rw [List.range_succ, List.filterMap_append, ih (by omega), List.take_succ]
      congr 1
      have e : (((x :: xs).length : Int) - 1 + (k : Int) * (-1)).toNat = (xs.length - 1 - k) + 1 := by rw [List.length_cons]; omega
      rw [List.getElem?_reverse (by omega)]
      simp only [List.filterMap_cons, List.filterMap_nil, e, List.getElem?_toArray, List.getElem?_cons_succ]
      cases xs[xs.length - 1 - k]? <;> rfl
  have := h xs.length (Nat.le_refl _)
  rw [this, ← List.length_reverse, List.take_length]
theorem tail_applied {sl : Addr} {t t0 : Tok} {n : Nat} {Q : Int × Int × Nat → Shared → Prop} (hn : 1 ≤ n) (hs : s.heap.IsSliceOf sl .none (.int 0 t0) (.int (-1) t))
    (h : Q ((n : Int) - 1, -1, n - 1) s) : wpAny (model prog w) A (Builtin.Slice.sliceApplied (.ref sl) (pure (n : Int))) Q E s := by
  obtain ⟨os, hos, hcs, hds⟩ := id hs
  unfold Builtin.Slice.sliceApplied Builtin.Slice.sliceFields
  refine wpAny_bind (wpAny_bind (wpAny_field hos hds (x := .none) rfl (wpAny_bind (wpAny_field hos hds (x := .int 0 t0) rfl (wpAny_bind (wpAny_field hos hds (x := .int (-1) t) rfl (wpAny_pure ?_)))))))
  refine wpAny_bind (slicePart_int ?_)
  show wpAny _ _ (if ((-1 : Int) == 0) = true then _ else _) _ _ s
  rw [if_neg (by decide)]
  refine wpAny_bind (slicePart_none (wpAny_bind (slicePart_int (wpAny_bind (wpAny_pure ?_)))))
  show wpAny _ _ (let p := Builtin.Slice.sliceAdjust none (some 0) (-1) (n : Int); pure (p.1, (-1 : Int), Builtin.Slice.slicePlaces p.1 p.2 (-1))) _ _ s
  rw [tail_adjust n hn]
  show wpAny _ _ (pure ((n : Int) - 1, (-1 : Int), Builtin.Slice.slicePlaces ((n : Int) - 1) 0 (-1))) _ _ s
  rw [tail_places n hn]
  exact wpAny_pure h
theorem tail_tuple {t sl : Addr} {x : Value} {items : List Value} {u u0 : Tok} {Q : Value → Shared → Prop} (ht : IsTup s.heap t (x :: items).toArray) (hs : s.heap.IsSliceOf sl .none (.int 0 u0) (.int (-1) u))
    (h : Q (.ref s.heap.objs.size) { s with heap := s.heap.push { cls := .type "tuple", data := .seq items.reverse.toArray } }) (hsz : items.length ≤ sizeLine) :
    wpAny (model prog w) A (getItem (.ref t) (.ref sl)) Q E s := by
  have hk : sizeOk (.seq items.reverse.toArray) := by
    show items.reverse.toArray.size ≤ sizeLine
    rw [List.size_toArray, List.length_reverse]; exact hsz
  obtain ⟨os, hos, hcs, hds⟩ := id hs
  have hT : s.TypeIs (.ref sl) "slice" := ⟨os, hos, hcs⟩
  unfold getItem; try with_reducible refine wpAny_holding ?_
  first | refine wpAny_bind (wpAny_pure ?_) | skip
  refine wpAny_bind (wpAny_sequenceKey ht.typeIs (by decide) (wpAny_bind (wpAny_callSpecial?_slot (name := Str.ofString "__getitem__") ht.typeIs PyProof.Rows.slot_tuple_getitem (wpAny_call_entry PyProof.Rows.slot_tuple_getitem ht.typeIs entry_tuple_getitem ?_ (args_tuple_getitem _ _)))))
  show wpAny _ _ (Builtin.Tuple.tupleItemsOf (.ref t) >>= _) _ _ s
  refine wpAny_bind (tupleItemsOf_ ht (wpAny_bind (wpAny_typeOf hT ?_)))
  rw [if_pos (by decide)]
  refine wpAny_bind (tail_applied (n := (x :: items).toArray.size) (by rw [List.size_toArray, List.length_cons]; omega) hs ?_)
  have hno : ¬ ((((((x :: items).toArray.size : Nat) : Int) - 1 == 0 && (-1 : Int) == 1) && (x :: items).toArray.size - 1 == (x :: items).toArray.size) = true) := by
    intro q; simp at q
  show wpAny _ _ (if (((((x :: items).toArray.size : Nat) : Int) - 1 == 0 && (-1 : Int) == 1 && (x :: items).toArray.size - 1 == (x :: items).toArray.size) = true) then _ else _) _ _ s
  rw [if_neg hno]
  have e : ((List.range ((x :: items).toArray.size - 1)).filterMap fun (m : Nat) => (x :: items).toArray[(((x :: items).toArray.size : Int) - 1 + (m : Int) * (-1)).toNat]?).toArray = items.reverse.toArray := by
    rw [List.size_toArray, ← tail_pick x items]
    rfl
  rw [e]
  first
    | exact wpAny_bind (m := Builtin.Tuple.tupleExact _) (wpAny_newObj_type (wpAny_pure ⟨_, rfl, wpAny_pure h⟩) hk)
    | exact wpAny_bind (m := Builtin.Tuple.tupleExact _) (wpAny_newObj_type (wpAny_bind (wpAny_pure (wpAny_pure ⟨_, rfl, wpAny_pure h⟩))) hk)
    | exact wpAny_bind (wpAny_bind (m := Builtin.Tuple.tupleExact _) (wpAny_newObj_type (wpAny_pure (wpAny_pure ⟨_, rfl, wpAny_pure h⟩)) hk))
    | exact wpAny_bind (wpAny_bind (m := Builtin.Tuple.tupleExact _) (wpAny_newObj_type (wpAny_pure ⟨_, rfl, wpAny_pure h⟩) hk))
end
section
variable {X : Cx} {W : WX}
/-- t[:0:-1] of a tuple that is not empty -/
def tTail (K : PySem.W.Frag) (te : TE) : TE := fun σ H Q => te σ H fun x H1 => ∃ a y xs, x = .ref a ∧ SqT K H1 a (y :: xs) ∧ ∀ p, H1 p = none → Q (.ref p) (upd H1 p (.tup xs.reverse))
theorem pe_tail {e : Expr} {te : TE} {k k0 : Nat} {p0 p1 p2 p3 pos : Pos} (he : PE X e te) : PE X (.Subscript e (.Slice none (some (.Constant (.int 0) k0 p0)) (some (.UnaryOp .USub (.Constant (.int 1) k p1) p2)) p3) pos) (tTail X.K te) := by
  refine ⟨fun pins s σ H Q I h => ?_⟩
  refine Subscript_ (thn (he.run pins s σ H _ I h) fun v s1 ⟨x, H1, I1, r1, a, y, xs, ex, hx, q⟩ => ?_); subst ex; cases r1
  have hst : PO X (some (.UnaryOp .USub (.Constant (.int 1) k p1) p2)) (tPart (tUn (rU fun i => .int (-i)) (tC (.int 1)))) := po_some (pe_un un_neg pe_int)
  have hup : PO X (some (.Constant (.int 0) k0 p0)) (tPart (tC (.int 0))) := po_some pe_int
  refine wpAny_Slice (thn (po_none.run pins s1 σ H1 (fun o H2 => o = none ∧ H2 = H1) I1 ⟨rfl, rfl⟩) fun vl s2 ⟨l, H2, I2, pl, el, e2⟩ => ?_); subst el e2
  refine thn (hup.run pins s2 σ H2 (fun o H3 => o = some 0 ∧ H3 = H2) I2 ⟨0, rfl, rfl, rfl⟩) fun vu s3 ⟨u, H3, I3, pu, eu, e3⟩ => ?_; subst eu e3
  refine thn (hst.run pins s3 σ H3 (fun o H4 => o = some (-1) ∧ H4 = H3) I3 ⟨1, rfl, -1, rfl, rfl, rfl⟩) fun vs s4 ⟨o, H4, I4, ps, eo, e4⟩ => ?_; subst eo e4
  have J : Inv X pins σ H4 { s4 with heap := s4.heap.push { cls := .type "slice", data := .fields #[vl, vu, vs] } } := I4.kept (t' := s4.toks) fun b ob q => Heap.get?_push_of_some _ q
  show wpAny (model X.prog X.w) X.A (subscriptTail e (.Slice none (some (.Constant (.int 0) k0 p0)) (some (.UnaryOp .USub (.Constant (.int 1) k p1) p2)) p3) (.ref a) (.ref s4.heap.objs.size)) (EP X pins σ Q) X.xe { s4 with heap := s4.heap.push { cls := .type "slice", data := .fields #[vl, vu, vs] } }
  obtain ⟨its, r, ht, hz⟩ := J.tuple hx
  rw [List.length_cons] at hz
  cases r with
  | cons r0 r =>
    have hlen := Vals.length r
    refine tail_any (ops := [.ref a, .ref s4.heap.objs.size]) ht.typeIs (PyProof.Rows.slot_tuple_getitem.lookup) ?_ (by with_unfolding_all rfl)
    cases pl; cases pu; cases ps
    refine tail_tuple ht (Heap.IsSliceOf.new _ _ _ _) ?_ (by omega)
    exact ⟨.ref _, _, J.laid (t' := s4.toks) (o := .tup xs.reverse) (fun b ob q => Heap.get?_push_of_some _ q) (Nat.le_refl _) ⟨by rw [List.length_reverse]; omega, _, L2.Vals.reverse r, IsTup.new _ _⟩, rfl, q _ (J.hok.fresh (Nat.le_refl _))⟩
def wBack0 (wx : WE) : WE := fun env S P X => wx env S (fun x S' => match x with
  | .tup (_ :: ds) => P (.tup ds.reverse) S'
  | _ => False) X
theorem ie_back0 {e : Expr} {wx : WE} {k k0 : Nat} {p0 p1 p2 p3 pos : Pos} (he : IE X W e wx) : IE X W (.Subscript e (.Slice none (some (.Constant (.int 0) k0 p0)) (some (.UnaryOp .USub (.Constant (.int 1) k p1) p2)) p3) pos) (wBack0 wx) := by
  refine ⟨fun pins s σ H Q I ⟨env, S, P, x, re, rs, hw, hq, hx⟩ => ?_⟩
  refine thn ((pe_tail he).run pins s σ H (fun v H' => ∃ p ds vs H1 S1, v = .ref p ∧ H1 p = none ∧ H' = upd H1 p (.tup vs) ∧ RepL X.K H1 vs ds ∧ RepS X.K H1 S1 ∧ Ext H H1 ∧ P (.tup ds) S1) I
    ⟨env, S, _, x, re, rs, hw, fun d S1 v H1 q e1 r1 s1 => ?_, hx⟩) fun u s1 ⟨v, H', I', rv, p, ds, vs, H1, S1, ev, np, eH, r1, s1', e1, q⟩ => ?_
  · cases d with
    | tup es =>
      cases es with
      | nil => exact q.elim
      | cons z zs =>
        cases r1 with
        | tup h1 t1 =>
          cases t1 with
          | cons t0 t1 => exact ⟨_, _, _, rfl, h1, fun l nl => ⟨l, zs.reverse, _, H1, S1, rfl, nl, rfl, t1.rev, s1, e1, q⟩⟩
    | _ => exact q.elim
  · subst ev; subst eH
    exact ⟨.ref p, _, I', rv, hq _ S1 _ _ q (e1.trans (Ext.new np)) (.tup (.of upd_same) (r1.ext (Ext.new np))) (s1'.new np)⟩
/-! xs.index(y) -/
def oIndex : O2 := fun x y S P => ∃ ds j z, lstOf S x = some ds ∧ okD (res S x) = true ∧ okD (res S y) = true ∧ (toPL ds)[j]? = some z ∧ PyData.eqv z (toP (res S y)) = true ∧
  (∀ m z', m < j → (toPL ds)[m]? = some z' → PyData.eqv z' (toP (res S y)) = false) ∧ P (.int (j : Nat)) S
def wIndex (wo w : WE) : WE := fun env S P X => wo env S (fun x S1 => (∃ ds, lstOf S1 x = some ds) ∧ w env S1 (fun y S2 => oIndex x y S2 P) X) X
theorem ie_index {o e : Expr} {wo wx : WE} {apos cpos : Pos} (hu : X.A.units + 65 < cLine) (ho : IE X W o wo) (he : IE X W e wx) (hbase : attributeBase o "index" X.env (eval o X.env) = eval o X.env) (hline : (apos.endLine == cpos.line) = true)
    (hfew : ((backTo cpos (starEach [e] X.env)).all (fun x => !x.1) && (backToKw cpos (keywordEach [] X.env)).all (fun x => x.1.isSome) && decide ([e].length + ([] : List Keyword).length + (if ([] : List Keyword).isEmpty then 0 else 1) < 30)) = true)
    (hs : starEach [e] X.env = (false, eval e X.env) :: starEach [] X.env) : IE X W (.Call (.Attribute o "index" apos) [e] [] cpos) (wIndex wo wx) := by
  refine (pe_bm PySem.F.plainAttrs_list PySem.F.slot_list_index PySem.F.type_list_index (mt_indexD hu) ho (pa_cons he pa_nil hs) hbase hfew hline hs rfl).of fun σ H Q ⟨env, S, P, x, re, rs, hw, hq, hx⟩ => ?_
  refine ⟨env, S, _, x, re, rs, hw, fun d S1 v H1 q e1 r1 s1 => ⟨?_, env, S1, _, x, re.ext e1, s1, q.2, fun y S2 u H2 q2 e2 r2 s2 => ?_, hx.ext e1⟩, hx⟩
  · obtain ⟨ds, e⟩ := q.1
    obtain ⟨a, vs, rfl, hl, _⟩ := lst_rep r1 s1 e
    exact .inl ⟨rfl, vs, hl⟩
  · obtain ⟨ds, j, z, e, ox, oy, hz, hzj, hno, q3⟩ := q2
    have r1' := r1.ext e2
    obtain ⟨a, vs, rfl, hl, _⟩ := lst_rep r1' s2 e
    obtain ⟨a1, a2⟩ := dp_res r1' s2 ox
    obtain ⟨b1, b2⟩ := dp_res r2 s2 oy
    rw [lst_res e] at a1 a2
    simp only [toP] at a1 a2
    exact ⟨a, u, _, toPL ds, j, z, rfl, rfl, a1, b1, a2, b2, hz, hzj, hno, hq _ _ _ _ q3 (e1.trans e2) (.int _) s2⟩
end
end PL
namespace PL
open PySem PySem.Spec L2
/-! ### truth of a value -/
def wTru (w : WE) : WB := fun env S P X => w env S (fun d S' => match d with
  | .bl k => P k S'
  | .non => P false S'
  | .int i => P (i != 0) S'
  | .str y => y.length ≤ sizeLine ∧ P ((y.length : Int) != 0) S'
  | .tup ds => P (!ds.isEmpty) S'
  | .lst ds => P (!ds.isEmpty) S'
  | .ref a => match S' a with
    | some (.lst ds) => P (!ds.isEmpty) S'
    | none => False) X
theorem empty_rep {K : PySem.W.Frag} {H : Hp} {vs : List V} {ds : List D} (r : RepL K H vs ds) : (!vs.isEmpty) = !ds.isEmpty := by cases r <;> rfl
section
variable {X : Cx} {W : WX} {e : Expr} {w : WE}
theorem it_tru (h : IE X W e w) (he : ∀ whole, isTrue e X.env whole = (do let v ← whole; standAt e.pos; holding [v] (truthy v))) : IT X W e (wTru w) :=
  (pt_truth h he).of fun σ H Q ⟨env, S, P, x, re, rs, h, hq, hx⟩ => ⟨env, S, _, x, re, rs, h, fun d S' v H' p e1 r s => by
    cases r with
    | bl k => exact ⟨k, rfl, hq k S' H' p e1 s⟩
    | non => exact ⟨false, rfl, hq false S' H' p e1 s⟩
    | int i => exact ⟨_, rfl, hq _ S' H' p e1 s⟩
    | str y => exact ⟨_, ⟨p.1, rfl⟩, hq _ S' H' p.2 e1 s⟩
    | tup h1 t1 => exact ⟨_, .inr (.inl ⟨_, h1, rfl⟩), hq _ S' H' (by rw [empty_rep t1]; exact p) e1 s⟩
    | lst h1 t1 => exact ⟨_, .inl ⟨_, h1.sql, rfl⟩, hq _ S' H' (by rw [empty_rep t1]; exact p) e1 s⟩
    | ref a =>
      have p' : (match S' a with
        | some (.lst ds) => P (!ds.isEmpty) S'
        | none => False) := p
      cases eS : S' a with
      | none => rw [eS] at p'; exact p'.elim
      | some o =>
        cases o with
        | lst ds =>
          rw [eS] at p'
          obtain ⟨vs, q, t⟩ := s a _ eS
          exact ⟨_, .inl ⟨vs, .of q, rfl⟩, hq _ S' H' (by rw [empty_rep t]; exact p') e1 s⟩, hx⟩
end
/-! ### the tables -/
structure Gs where
  fns : List FE
  blt : List Str
  imp : List (Str × String)
  cst : List (Str × D)
  exc : List (Str × Str)
  cls : List Str
  sub : Str → Str → Bool
  flds : List Str
  muts : List (Nat × Nat)
  frz : List (Nat × Nat × Str) := []
structure Good (G : Gs) (X : Cx) (W : WX) (N : List Str) (sc : Scope) (st : Str → Bool) (k : Nat) : Prop where
  hN : X.N = N
  hsc : X.env.scope = sc
  nd : N.Nodup
  calm : X.calm = true
  room : RoomG k X.A
  takes : Takes X W
  fns : ∀ e ∈ G.fns, FnIn X k e
  blt : ∀ x ∈ G.blt, X.mg x = none
  imp : ∀ q ∈ G.imp, X.mg q.1 = some (.builtin q.2)
  cst : ∀ q ∈ G.cst, ∃ v u, X.mg q.1 = some u ∧ RelV v u ∧ ∀ H, Rep X.K H v q.2
  exc : ∀ q ∈ G.exc, ∃ C fI, PX.ExTxt X.prog X.K X.mg q.1 q.2 C fI ∧ PX.FldOk q.2
  cls : ClsIn X G.cls G.sub
  fld : ∀ f ∈ G.flds, FldIn X G.cls f
  store : ∀ x, st x = true → Loc sc x ∧ (X.fn x = true ∨ sc.names.lookup x = some .local)
/-! names -/
def plainName (x : Str) : Bool := !(x == ("__debug__" : Str)) && !(x == ("__classdict__" : Str)) && !(x == ("__name__" : Str))
theorem plain_of {x : Str} (h : plainName x = true) : (x == ("__debug__" : Str)) = false ∧ (x == ("__classdict__" : Str)) = false ∧ x ≠ ("__name__" : Str) := by
  unfold plainName at h
  simp only [Bool.and_eq_true, Bool.not_eq_true'] at h
  exact ⟨h.1.1, h.1.2, fun z => by rw [z] at h; simp at h⟩
def isVis (sc : Scope) (x : Str) : Bool := match sc.names.lookup x with
  | some .local => true
  | some .cell => true
  | some .free => true
  | _ => false
def isLoc (sc : Scope) (x : Str) : Bool := match sc.names.lookup x with
  | some .local => true
  | some .cell => true
  | _ => false
def isGl (sc : Scope) (x : Str) : Bool := match sc.names.lookup x with
  | some .globalImplicit => true
  | _ => false
def isLocal (sc : Scope) (x : Str) : Bool := match sc.names.lookup x with
  | some .local => true
  | _ => false
theorem vis_of {sc : Scope} {x : Str} (h : isVis sc x = true) : Vis sc x := by
  unfold isVis at h
  split at h <;> first | exact .inl (by assumption) | exact .inr (.inl (by assumption)) | exact .inr (.inr (by assumption)) | cases h
theorem loc_of {sc : Scope} {x : Str} (h : isLoc sc x = true) : Loc sc x := by
  unfold isLoc at h
  split at h <;> first | exact .inl (by assumption) | exact .inr (by assumption) | cases h
theorem gl_of {sc : Scope} {x : Str} (h : isGl sc x = true) : sc.names.lookup x = some .globalImplicit := by
  unfold isGl at h
  split at h
  · assumption
  · cases h
theorem local_of {sc : Scope} {x : Str} (h : isLocal sc x = true) : sc.names.lookup x = some .local := by
  unfold isLocal at h
  split at h
  · assumption
  · cases h
/-- the place of a name -/
def ixF (x : Str) : List Str → Nat → Option Nat
  | [], _ => none
  | y :: r, i => if x = y then some i else ixF x r (i + 1)
theorem ixF_of {x : Str} : ∀ {N : List Str} {i j : Nat}, ixF x N i = some j → ∃ k, j = i + k ∧ N[k]? = some x
  | [], _, _, h => by cases h
  | y :: r, i, j, h => by
    unfold ixF at h
    split at h
    · rename_i e
      cases h
      exact ⟨0, rfl, by rw [e]; rfl⟩
    · obtain ⟨k, e, q⟩ := ixF_of h
      exact ⟨k + 1, by omega, q⟩
def slotOf (N : List Str) (sc : Scope) (x : Str) : Option Nat := if isVis sc x && plainName x then ixF x N 0 else none
theorem slot_of {N : List Str} {sc : Scope} {x : Str} {i : Nat} (h : slotOf N sc x = some i) : N[i]? = some x ∧ Vis sc x ∧ plainName x = true := by
  unfold slotOf at h
  split at h
  · rename_i c
    have c' := Bool.and_eq_true_iff.mp c
    obtain ⟨k, e, q⟩ := ixF_of h
    rw [Nat.zero_add] at e
    subst e
    exact ⟨q, vis_of c'.1, c'.2⟩
  · cases h
def memS (x : Str) : List Str → Bool
  | [] => false
  | y :: r => if x = y then true else memS x r
theorem memS_of {x : Str} : ∀ {l : List Str}, memS x l = true → x ∈ l
  | [], h => by cases h
  | y :: r, h => by
    unfold memS at h
    split at h
    · rename_i e; rw [e]; exact List.mem_cons_self
    · exact List.mem_cons_of_mem _ (memS_of h)
def findS {α : Type} (x : Str) : List (Str × α) → Option α
  | [] => none
  | (y, a) :: r => if x = y then some a else findS x r
theorem findS_of {α : Type} {x : Str} {a : α} : ∀ {l : List (Str × α)}, findS x l = some a → (x, a) ∈ l
  | [], h => by cases h
  | (y, b) :: r, h => by
    unfold findS at h
    split at h
    · rename_i e; cases h; rw [e]; exact List.mem_cons_self
    · exact List.mem_cons_of_mem _ (findS_of h)
def findF (x : Str) : List FE → Option FE
  | [] => none
  | e :: r => if x = e.name then some e else findF x r
theorem findF_of {x : Str} {e : FE} : ∀ {l : List FE}, findF x l = some e → e ∈ l ∧ x = e.name
  | [], h => by cases h
  | f :: r, h => by
    unfold findF at h
    split at h
    · rename_i q; cases h; exact ⟨List.mem_cons_self, q⟩
    · obtain ⟨a, b⟩ := findF_of h
      exact ⟨List.mem_cons_of_mem _ a, b⟩
/-! operators -/
def opOf : Operator → Option O2
  | .Add => some oAdd
  | .Sub => some oSub
  | .Mult => some oMul
  | .FloorDiv => some oDiv
  | .Mod => some oMod
  | .Pow => some oPow
  | _ => none
def cmpOf : CmpOp → Option O2
  | .Eq => some oEq
  | .NotEq => some oNe
  | .Lt => some (oCmpI fun i j => decide (i < j))
  | .LtE => some (oCmpI fun i j => decide (i ≤ j))
  | .Gt => some (oCmpI fun i j => decide (j < i))
  | .GtE => some (oCmpI fun i j => decide (j ≤ i))
  | .Is => some oIs
  | .IsNot => some oIsNot
  | .In => some oIn
  | .NotIn => some oNotIn

section
variable {X : Cx} {o : O2}
theorem op_ok {op : Operator} (h : opOf op = some o) : D2 X (binaryOp op) o := by
  cases op with
  | Add => cases h; exact d_add
  | Sub => cases h; exact d_sub
  | Mult => cases h; exact d_mul
  | FloorDiv => cases h; exact d_div
  | Mod => cases h; exact d_mod
  | Pow => cases h; exact d_pow
  | _ => cases h
theorem cmp_ok {op : CmpOp} (hu : X.A.units + 66 < cLine) (h : cmpOf op = some o) : D2 X (compareOp op) o := by
  cases op with
  | Eq => cases h; exact d_eq (by omega)
  | NotEq => cases h; exact d_ne (by omega)
  | Lt => cases h; exact d_lt
  | LtE => cases h; exact d_le
  | Gt => cases h; exact d_gt
  | GtE => cases h; exact d_ge
  | Is => cases h; exact d_is
  | IsNot => cases h; exact d_isnot
  | In => cases h; exact d_in (by omega)
  | NotIn => cases h; exact d_notIn (by omega)
end
/-! built-ins by name -/
def bltOf (m : Bool) (x : Str) : Option (Value × ON) :=
  if x = ("abs" : Str) then some (.builtin "abs", oAbs)
  else if x = ("int" : Str) then some (.type "int", oInt)
  else if x = ("len" : Str) then some (.builtin "len", oLen)
  else if x = ("repr" : Str) then some (.builtin "repr", oRepr)
  else if x = ("tuple" : Str) then some (.type "tuple", oTuple)
  else if x = ("min" : Str) then some (.builtin "min", oMin)
  else if x = ("max" : Str) then some (.builtin "max", oMax)
  else if x = ("sum" : Str) then some (.builtin "sum", oSum)
  else if x = ("str" : Str) then some (.type "str", oStr)
  else if x = ("list" : Str) then some (.type "list", oListM m)
  else none
def impOf (id : String) : Option ON := if id = "math.gcd" then some oGcd else none
theorem blt_ok {X : Cx} {x : Str} {f : Value} {o : ON} {m : Bool} (hc : X.calm = true) (hg : X.A.guards = some []) (hu : X.A.units + 66 < cLine) (h : bltOf m x = some (f, o)) :
    ((∃ id, f = .builtin id) ∨ ∃ T, f = .type T) ∧ bootBuiltins x = some f ∧ DN X (fun us => call f us) o := by
  unfold bltOf at h
  repeat' split at h
  all_goals first | cases h | skip
  all_goals (rename_i e; subst e)
  · exact ⟨.inl ⟨_, rfl⟩, PyProof.Rows.Boot.«abs», n_abs⟩
  · exact ⟨.inr ⟨_, rfl⟩, PyProof.Rows.Boot.«int», n_int⟩
  · exact ⟨.inl ⟨_, rfl⟩, PyProof.Rows.Boot.«len», n_len⟩
  · exact ⟨.inl ⟨_, rfl⟩, PyProof.Rows.Boot.«repr», n_repr hg hu⟩
  · exact ⟨.inr ⟨_, rfl⟩, PyProof.Rows.Boot.«tuple», n_tuple⟩
  · exact ⟨.inl ⟨_, rfl⟩, PyProof.Rows.Boot.«min», n_min hc (by omega)⟩
  · exact ⟨.inl ⟨_, rfl⟩, PyProof.Rows.Boot.«max», n_max hc⟩
  · exact ⟨.inl ⟨_, rfl⟩, PyProof.Rows.Boot.«sum», n_sum hc⟩
  · exact ⟨.inr ⟨_, rfl⟩, PyProof.Rows.Boot.«str», n_str⟩
  · refine ⟨.inr ⟨_, rfl⟩, PyProof.Rows.Boot.«list», ?_⟩
    unfold oListM
    by_cases hm : m = true
    · rw [if_pos hm]; exact n_listN
    · rw [if_neg hm]; exact n_list
theorem imp_ok {X : Cx} {id : String} {o : ON} (h : impOf id = some o) : DN X (fun us => call (.builtin id) us) o := by
  unfold impOf at h
  split at h
  · rename_i e; subst e; cases h; exact n_gcd
  · cases h
def tyOf (x : Str) : Option Bt :=
  if x = ("int" : Str) then some .int
  else if x = ("bool" : Str) then some .bool
  else if x = ("str" : Str) then some .str
  else if x = ("tuple" : Str) then some .tuple
  else if x = ("list" : Str) then some .list
  else none
theorem ty_ok {x : Str} {t : Bt} (h : tyOf x = some t) : bootBuiltins x = some (.type t.nm) := by
  unfold tyOf at h
  repeat' split at h
  all_goals first | cases h | skip
  all_goals (rename_i e; subst e)
  · exact PyProof.Rows.Boot.«int»
  · exact PyProof.Rows.Boot.«bool»
  · exact PyProof.Rows.Boot.«str»
  · exact PyProof.Rows.Boot.«tuple»
  · exact PyProof.Rows.Boot.«list»
/-! what the syntax must not be -/
def noStar : Expr → Bool
  | .Starred _ _ => false
  | _ => true
theorem star_cons {e : Expr} {es : List Expr} {env : PySem.Env} (h : noStar e = true) : starEach (e :: es) env = (false, eval e env) :: starEach es env := by
  cases e <;> first | rfl | cases h
theorem star_any {env : PySem.Env} {pos : Pos} : ∀ {es : List Expr}, es.all noStar = true → (backTo pos (starEach es env)).any (·.1) = false
  | [], _ => rfl
  | e :: es, h => by
    rw [List.all_cons, Bool.and_eq_true] at h
    rw [star_cons h.1]
    show (false || (backTo pos (starEach es env)).any (·.1)) = false
    rw [star_any h.2]
    rfl
def noSlice : Expr → Bool
  | .Slice _ _ _ _ => false
  | _ => true
theorem plain_ix {b : Expr} (h : noSlice b = true) : PlainIx b := fun o i => by
  cases b <;> first | rfl | cases h
def noSet : Expr → Bool
  | .Set _ _ _ => false
  | _ => true
theorem set_iter {e : Expr} {env : PySem.Env} (h : noSet e = true) : ∀ x, foldedSetIterable e env x = pure x := fun x => by
  cases e <;> first | rfl | cases h
theorem set_mark {op : CmpOp} {e : Expr} (h : noSet e = true) : behindInMarks op e = false := by
  cases e <;> first | rfl | cases h
def noSuper : Expr → Bool
  | .Call _ _ _ _ => false
  | _ => true
theorem base_of {e : Expr} {f : Str} {env : PySem.Env} (h : noSuper e = true) : attributeBase e f env (eval e env) = eval e env := by
  cases e <;> first | rfl | cases h
/-- a value by whose truth a test goes -/
def plainT : Expr → Bool
  | .UnaryOp .Not _ _ => false
  | .BoolOp _ _ _ => false
  | .IfExp _ _ _ _ => false
  | .Compare _ _ _ _ => false
  | _ => true
theorem tru_of {e : Expr} {env : PySem.Env} (h : plainT e = true) : ∀ whole, isTrue e env whole = (do let v ← whole; standAt e.pos; holding [v] (truthy v)) := fun whole => by
  cases e with
  | UnaryOp op x p => cases op <;> first | rfl | cases h
  | BoolOp _ _ _ => cases h
  | IfExp _ _ _ _ => cases h
  | Compare _ _ _ _ => cases h
  | _ => rfl
def noComp : Expr → Bool
  | .ListComp _ _ _ _ => false
  | .SetComp _ _ _ _ => false
  | .DictComp _ _ _ _ _ => false
  | _ => true
theorem swap_of {e : Expr} {t : Option Expr} {l : Nat} {env : PySem.Env} (h : noComp e = true) : swapsWith e t l env = pure false := by
  cases e <;> first | rfl | cases h
end PL
namespace PL
open PySem PySem.Spec L2
/-! ### a, b = x, y: how the stores go -/
def isName : Expr → Bool
  | .Name _ _ => true
  | _ => false
def locName (sc : Scope) : Expr → Bool
  | .Name x _ => isLocal sc x
  | _ => false
def swNone (sc : Scope) (targets : List Expr) (value : Expr) : Bool := match targets, value with
  | [.Tuple ts _ _], .Tuple vs _ _ => !(ts.length == 2 || ts.length == 3) || vs.length != ts.length || vs.all (foldedForSure 8) || ts.any fun t => !locName sc t
  | [.List _ _], .Tuple _ _ _ => false
  | _, _ => true
theorem filterMap_lt {α β : Type} (f : α → Option β) : ∀ (l : List α) (a : α), a ∈ l → f a = none → (l.filterMap f).length < l.length
  | x :: l, a, h, hn => by
    rcases List.mem_cons.mp h with rfl | h
    · rw [List.filterMap_cons, hn]
      exact Nat.lt_succ_of_le (List.length_filterMap_le f l)
    · have ih := filterMap_lt f l a h hn
      rw [List.filterMap_cons]
      split
      · exact Nat.lt_succ_of_lt ih
      · exact Nat.succ_lt_succ ih
theorem sw_fold {ts vs : List Expr} {k k2 : Nat} {p p2 : Pos} {env : PySem.Env} (h : vs.all (foldedForSure 8) = true) : swappedStores [.Tuple ts k p] (.Tuple vs k2 p2) env = pure none := by
  unfold swappedStores
  simp only [h]
  split
  · rfl
  · split
    · rfl
    · split
      · rfl
      · rfl
theorem sw_none {sc : Scope} {targets : List Expr} {value : Expr} {env : PySem.Env} (hsc : env.scope = sc) (h : swNone sc targets value = true) : swappedStores targets value env = pure none := by
  unfold swNone at h
  split at h
  · rename_i ts k p vs k2 p2
    by_cases hf : vs.all (foldedForSure 8) = true
    · exact sw_fold hf
    have hf' : vs.all (foldedForSure 8) = false := by simpa using hf
    rw [hf', Bool.or_false] at h
    unfold swappedStores
    simp only
    by_cases c1 : (!(ts.length == 2 || ts.length == 3) || vs.length != ts.length || env.blockKind != .function) = true
    · rw [if_pos c1]
    rw [if_neg c1]
    have c1' : (!(ts.length == 2 || ts.length == 3) || vs.length != ts.length) = false := by
      cases q : (!(ts.length == 2 || ts.length == 3) || vs.length != ts.length) with
      | false => rfl
      | true => rw [q] at c1; exact absurd rfl c1
    rw [c1', Bool.false_or] at h
    obtain ⟨t, ht, hnn⟩ := List.any_eq_true.mp h
    split
    · rfl
    · have hl := filterMap_lt (fun
        | .Name id pos => if env.kindOf id == some .local && pos.line == (ts.head?.map (·.pos.line)).getD 0 then some id else none
        | _ => none) ts t ht (by
        cases t with
        | Name x p =>
          have hx : isLocal sc x = false := by simpa [locName] using hnn
          have hk : (env.kindOf x == some NameKind.local) = false := by
            show (env.scope.names.lookup x == some NameKind.local) = false
            rw [hsc]
            unfold isLocal at hx
            split at hx
            · cases hx
            · rename_i hne
              cases e : sc.names.lookup x with
              | none => rfl
              | some k => cases k <;> first | rfl | exact absurd e hne
          simp only [hk, Bool.false_and, Bool.false_eq_true, if_false]
        | _ => rfl)
      have c3 : ((ts.filterMap (fun
        | .Name id pos => if env.kindOf id == some .local && pos.line == (ts.head?.map (·.pos.line)).getD 0 then some id else none
        | _ => none)).length != ts.length) = true := by
        rw [bne_iff_ne]
        omega
      refine if_pos ?_
      rw [Bool.or_eq_true]
      exact .inl c3
  · cases h
  · rename_i h1 h2
    unfold swappedStores
    split
    · rename_i ts vs e
      split at e
      · exact (h1 _ _ _ _ _ _ rfl rfl).elim
      · exact (h2 _ _ _ _ _ rfl rfl).elim
      · cases e
    · rfl
/-- two or three different local names, on one line, not of written things alone -/
def swOk (sc : Scope) (xs : List (Str × Pos)) (vs : List Expr) : Bool :=
  (vs.length == xs.length) && vs.all noStar && (xs.all fun q => isLocal sc q.1 && (q.2.line == ((xs.head?.map (·.2.line)).getD 0))) && !(vs.all (foldedForSure 8)) && !(vs.all (constantsAlone 8))
theorem sw_two {sc : Scope} {x y : Str} {px py pt : Pos} {kt k2 : Nat} {pt2 : Pos} {a b : Expr} {env : PySem.Env} (hsc : env.scope = sc) (hk : env.scope.kind = .function) (hne : x ≠ y) (h : swOk sc [(x, px), (y, py)] [a, b] = true) :
    swappedStores [.Tuple [.Name x px, .Name y py] kt pt] (.Tuple [a, b] k2 pt2) env = pure (some [x, y]) := by
  subst hsc
  unfold swOk at h
  simp only [List.all_cons, List.all_nil, Bool.and_true, Bool.and_eq_true, Bool.not_eq_true', List.head?_cons, Option.map_some, Option.getD_some] at h
  obtain ⟨⟨⟨⟨_, h1⟩, ⟨hx, lx⟩, hy, ly⟩, hf⟩, hcn⟩ := h
  have kx : env.kindOf x = some .local := local_of hx
  have ky : env.kindOf y = some .local := local_of hy
  have bk : env.blockKind = .function := by unfold Env.blockKind; rw [hk]; rfl
  have sa : ∀ e : Expr, noStar e = true → (match e with | .Starred .. => true | _ => false) = false := fun e he => by cases e <;> first | rfl | cases he
  have hx2 : (x == y) = false := by simpa using hne
  have hy2 : (y == x) = false := by simpa using fun z : y = x => hne z.symm
  have er : ([x, y] : List Str).eraseDups = [x, y] := by
    rw [List.eraseDups_cons, List.filter_cons]
    simp [hy2]
    rfl
  have sv : ([a, b].any fun | .Starred .. => true | _ => false) = false := by
    rw [List.any_cons, List.any_cons, List.any_nil, sa a h1.1, sa b h1.2]
    rfl
  have f1 : ([a, b].all (foldedForSure 8)) = false := by simpa [List.all_cons] using hf
  have f2 : ([a, b].all (constantsAlone 8)) = false := by simpa [List.all_cons] using hcn
  unfold swappedStores
  simp only [bk, sv, f1, f2]
  have ly' : py.line = px.line := by simpa using ly
  have g1 : ¬ (foldedForSure 8 a = true ∧ foldedForSure 8 b = true) := by
    rw [← Bool.and_eq_true, hf]; decide
  have g2 : ¬ (constantsAlone 8 a = true ∧ constantsAlone 8 b = true) := by
    rw [← Bool.and_eq_true, hcn]; decide
  simp [List.filterMap_cons, kx, ky, Expr.pos, ly', er]
  intro h
  rcases h with h | h
  · exact (Bool.false_ne_true ((sa a h1.1).symm.trans h)).elim
  · exact (Bool.false_ne_true ((sa b h1.2).symm.trans h)).elim
theorem sw_three {sc : Scope} {x y z : Str} {px py pz pt : Pos} {kt k2 : Nat} {pt2 : Pos} {a b c : Expr} {env : PySem.Env} (hsc : env.scope = sc) (hk : env.scope.kind = .function) (hxy : x ≠ y) (hxz : x ≠ z) (hyz : y ≠ z) (h : swOk sc [(x, px), (y, py), (z, pz)] [a, b, c] = true) :
    swappedStores [.Tuple [.Name x px, .Name y py, .Name z pz] kt pt] (.Tuple [a, b, c] k2 pt2) env = pure (some [x, y, z]) := by
  subst hsc
  unfold swOk at h
  simp only [List.all_cons, List.all_nil, Bool.and_true, Bool.and_eq_true, Bool.not_eq_true', List.head?_cons, Option.map_some, Option.getD_some] at h
  obtain ⟨⟨⟨⟨_, h1⟩, ⟨hx, lx⟩, ⟨hy, ly⟩, hz, lz⟩, hf⟩, hcn⟩ := h
  have kx : env.kindOf x = some .local := local_of hx
  have ky : env.kindOf y = some .local := local_of hy
  have kz : env.kindOf z = some .local := local_of hz
  have bk : env.blockKind = .function := by unfold Env.blockKind; rw [hk]; rfl
  have sa : ∀ e : Expr, noStar e = true → (match e with | .Starred .. => true | _ => false) = false := fun e he => by cases e <;> first | rfl | cases he
  have yx : (y == x) = false := by simpa using fun q : y = x => hxy q.symm
  have zx : (z == x) = false := by simpa using fun q : z = x => hxz q.symm
  have zy : (z == y) = false := by simpa using fun q : z = y => hyz q.symm
  have er : ([x, y, z] : List Str).eraseDups = [x, y, z] := by
    rw [List.eraseDups_cons, List.filter_cons, List.filter_cons]
    simp only [yx, zx, Bool.not_false, if_true, List.filter_nil]
    rw [List.eraseDups_cons, List.filter_cons]
    simp only [zy, Bool.not_false, if_true, List.filter_nil]
    rfl
  have sv : ([a, b, c].any fun | .Starred .. => true | _ => false) = false := by
    rw [List.any_cons, List.any_cons, List.any_cons, List.any_nil, sa a h1.1, sa b h1.2.1, sa c h1.2.2]
    rfl
  have f1 : ([a, b, c].all (foldedForSure 8)) = false := by simpa [List.all_cons] using hf
  have f2 : ([a, b, c].all (constantsAlone 8)) = false := by simpa [List.all_cons] using hcn
  unfold swappedStores
  simp only [bk, sv, f1, f2]
  have ly' : py.line = px.line := by simpa using ly
  have lz' : pz.line = px.line := by simpa using lz
  simp [List.filterMap_cons, kx, ky, kz, Expr.pos, ly', lz', er]
  intro h
  rcases h with h | h | h
  · exact (Bool.false_ne_true ((sa a h1.1).symm.trans h)).elim
  · exact (Bool.false_ne_true ((sa b h1.2.1).symm.trans h)).elim
  · exact (Bool.false_ne_true ((sa c h1.2.2).symm.trans h)).elim
end PL
namespace PL
open PySem PySem.Spec L2
/-! ### from the text to the readings -/
def kwNames : List Keyword → Option (List Str)
  | [] => some []
  | ⟨some n, _, _⟩ :: r => (kwNames r).map (n :: ·)
  | ⟨none, _, _⟩ :: _ => none
def memP (q : Nat × List Str) : List (Nat × List Str) → Bool
  | [] => false
  | r :: l => if q = r then true else memP q l
theorem memP_of {q : Nat × List Str} : ∀ {l : List (Nat × List Str)}, memP q l = true → q ∈ l
  | [], h => by cases h
  | r :: l, h => by
    unfold memP at h
    split at h
    · rename_i e; rw [e]; exact List.mem_cons_self
    · exact List.mem_cons_of_mem _ (memP_of h)
def memN (q : Nat × Nat) : List (Nat × Nat) → Bool
  | [] => false
  | r :: l => if q = r then true else memN q l
/-- the names of a block and their places -/
def ownOf (N : List Str) : List (Str × NameKind) → List (Str × Nat)
  | [] => []
  | (x, .local) :: r => match ixF x N 0 with
    | some i => (x, i) :: ownOf N r
    | none => ownOf N r
  | (x, .cell) :: r => match ixF x N 0 with
    | some i => (x, i) :: ownOf N r
    | none => ownOf N r
  | _ :: r => ownOf N r
mutual
def trE (G : Gs) : Nat → List Str → Scope → (Str → Bool) → Expr → Option WE
  | 0, _, _, _, _ => none
  | n + 1, N, sc, st, e => match e with
    | .Constant (.int i) _ _ => some (wC (.int i))
    | .Constant (.bool i) _ _ => some (wC (.bl i))
    | .Constant .none _ _ => some (wC .non)
    | .Constant (.str i) _ _ => some (wC (.str i))
    | .Name x _ => match slotOf N sc x with
      | some i => some (wVar i)
      | none => if isGl sc x && plainName x then (findS x G.cst).map wC else none
    | .BinOp a op b _ => match opOf op, trE G n N sc st a, trE G n N sc st b with
      | some o, some wa, some wb => some (w2 o wa wb)
      | _, _, _ => none
    | .UnaryOp .USub a _ => (trE G n N sc st a).map (w1 oNeg)
    | .UnaryOp .Not a _ => (trE G n N sc st a).map wNotV
    | .Compare a [op] [b] _ => if noSet b then match cmpOf op, trE G n N sc st a, trE G n N sc st b with
        | some o, some wa, some wb => some (w2 o wa wb)
        | _, _, _ => none
      else none
    | .Compare a [op, op'] [b, c] _ => if noSet c then match cmpOf op, cmpOf op', trE G n N sc st a, trE G n N sc st b, trE G n N sc st c with
        | some o, some o', some wa, some wb, some wc => some (wChain o o' wa wb wc)
        | _, _, _, _, _ => none
      else none
    | .BoolOp op vs _ => trV G n N sc st op vs
    | .IfExp c a b _ => match trT G n N sc st c, trE G n N sc st a, trE G n N sc st b with
      | some wc, some wa, some wb => some (wIf wc wa wb)
      | _, _, _ => none
    | .Tuple es _ _ => (trA G n N sc st es).map wTup
    | .List es p => (trA G n N sc st es).map (if memN (p.line, p.col) G.muts then wNew else wLst)
    | .Subscript a b p => match b with
      | .Slice none none (some (.UnaryOp .USub (.Constant (.int k) _ _) _)) _ => if k = 1 then (trE G n N sc st a).map (if memN (p.line, p.col) G.muts then wRevN else wRev) else none
      | .Slice none (some (.Constant (.int z) _ _)) (some (.UnaryOp .USub (.Constant (.int k) _ _) _)) _ => if z = 0 ∧ k = 1 then (trE G n N sc st a).map wBack0 else none
      | .Slice lo hi none _ => match trE G n N sc st a, trO G n N sc st lo, trO G n N sc st hi with
        | some wa, some wl, some wh => some (wSlice wa wl wh)
        | _, _, _ => none
      | b => if noSlice b then match trE G n N sc st a, trE G n N sc st b with
          | some wa, some wb => some (w2 oIdx wa wb)
          | _, _ => none
        else none
    | .Call (.Name x _) es kws cpos => if isGl sc x && plainName x && es.all noStar then
        match findF x G.fns with
        | some fe => match kwNames kws with
          | some ks => if memP (es.length, ks) fe.pats then match trA G n N sc st es, trK G n N sc st kws with
              | some was, some wks => some (wCall fe.con (ixOf fe.ps es.length ks) was wks)
              | _, _ => none
            else none
          | none => none
        | none => match kws, es with
          | [], _ :: _ => match findS x G.imp with
            | some id => match impOf id, trA G n N sc st es with
              | some o, some was => some (wN o was)
              | _, _ => none
            | none => if memS x G.blt then (if x = ("isinstance" : Str) then match es with
                | [e, .Name t _] => if isGl sc t && plainName t && memS t G.blt then match tyOf t, trE G n N sc st e with
                    | some bt, some w => some (wIsT bt w)
                    | _, _ => none
                  else none
                | _ => none
              else match bltOf (memN (cpos.line, cpos.col + 2000000) G.muts) x, trA G n N sc st es with
                | some (_, o), some was => some (wN o was)
                | _, _ => none)
              else none
          | _, _ => none
      else none
    | .Call (.Attribute o m apos) es [] cpos => if noSuper o && apos.endLine == cpos.line then
        if m = ("append" : Str) then match es with
          | [e] => if noStar e then match trE G n N sc st o, trE G n N sc st e with
              | some wo, some we => some (wApp wo we)
              | _, _ => none
            else none
          | _ => none
        else if m = ("index" : Str) then match es with
          | [e] => if noStar e then match trE G n N sc st o, trE G n N sc st e with
              | some wo, some we => some (wIndex wo we)
              | _, _ => none
            else none
          | _ => none
        else if m = ("pop" : Str) then match es with
          | [] => (trE G n N sc st o).map wPop
          | _ => none
        else none
      else none
    | .ListComp elt [⟨tg, iter, ifs, 0⟩] scope p => if blkC N sc scope (ownOf N scope.names) && noSet iter then
        match trI G n N sc st tg iter, trG G n N (relS scope sc) (isLoc scope) tg, trIf G n N (relS scope sc) (isLoc scope) ifs, trE G n N (relS scope sc) (isLoc scope) elt with
        | some wi, some (g, l), some t, some w => if l.all (fun i => ((ownOf N scope.names).map (fun q : Str × Nat => q.2)).contains i) then some ((if memN (p.line, p.col + 1000000) G.muts then wLcN else wLc) wi g t w ((ownOf N scope.names).map (fun q : Str × Nat => q.2))) else none
        | _, _, _, _ => none
      else none
    | _ => none
def trV (G : Gs) : Nat → List Str → Scope → (Str → Bool) → BoolOp → List Expr → Option WE
  | 0, _, _, _, _, _ => none
  | n + 1, N, sc, st, op, es => match es with
    | [a] => trE G n N sc st a
    | a :: b :: r => match trE G n N sc st a, trV G n N sc st op (b :: r) with
      | some wa, some wb => some (match op with
        | .And => wAndV wa wb
        | .Or => wOrV wa wb)
      | _, _ => none
    | [] => none
def trT (G : Gs) : Nat → List Str → Scope → (Str → Bool) → Expr → Option WB
  | 0, _, _, _, _ => none
  | n + 1, N, sc, st, e => match e with
    | .Compare a [op] [b] _ => if noSet b then match cmpOf op, trE G n N sc st a, trE G n N sc st b with
        | some o, some wa, some wb => some (wBl (w2 o wa wb))
        | _, _, _ => none
      else none
    | .Compare a [op, op'] [b, c] _ => if noSet c then match cmpOf op, cmpOf op', trE G n N sc st a, trE G n N sc st b, trE G n N sc st c with
        | some o, some o', some wa, some wb, some wc => some (wBl (wChain o o' wa wb wc))
        | _, _, _, _, _ => none
      else none
    | .BoolOp op vs _ => trVT G n N sc st op vs
    | .UnaryOp .Not a _ => (trT G n N sc st a).map wNotB
    | e => if plainT e then (trE G n N sc st e).map wTru else none
def trVT (G : Gs) : Nat → List Str → Scope → (Str → Bool) → BoolOp → List Expr → Option WB
  | 0, _, _, _, _, _ => none
  | n + 1, N, sc, st, op, es => match es with
    | [a] => trT G n N sc st a
    | a :: b :: r => match trT G n N sc st a, trVT G n N sc st op (b :: r) with
      | some wa, some wb => some (match op with
        | .And => wAndB wa wb
        | .Or => wOrB wa wb)
      | _, _ => none
    | [] => none
def trA (G : Gs) : Nat → List Str → Scope → (Str → Bool) → List Expr → Option WA
  | 0, _, _, _, _ => none
  | n + 1, N, sc, st, es => match es with
    | [] => some wNil
    | e :: r => if noStar e then match trE G n N sc st e, trA G n N sc st r with
        | some w, some ws => some (wCons w ws)
        | _, _ => none
      else none
def trK (G : Gs) : Nat → List Str → Scope → (Str → Bool) → List Keyword → Option WA
  | 0, _, _, _, _ => none
  | n + 1, N, sc, st, kws => match kws with
    | [] => some wNil
    | ⟨_, e, _⟩ :: r => match trE G n N sc st e, trK G n N sc st r with
      | some w, some ws => some (wCons w ws)
      | _, _ => none
def trO (G : Gs) : Nat → List Str → Scope → (Str → Bool) → Option Expr → Option (Option WE)
  | 0, _, _, _, _ => none
  | n + 1, N, sc, st, e => match e with
    | none => some none
    | some e => (trE G n N sc st e).map some
def trI (G : Gs) : Nat → List Str → Scope → (Str → Bool) → Expr → Expr → Option WI
  | 0, _, _, _, _, _ => none
  | n + 1, N, sc, st, tg, e => match e with
    | .Call (.Name x _) es [] _ => if x = ("range" : Str) then
        if isGl sc x && memS x G.blt && es.all noStar then match es with
          | [a] => (trA G n N sc st [a]).map wRange1
          | [a, b] => (trA G n N sc st [a, b]).map wRange2
          | _ => none
        else none
      else if x = ("zip" : Str) then
        if isGl sc x && memS x G.blt && es.all noStar then match tg, es with
          | .Tuple _ _ _, [a, b] => (trA G n N sc st [a, b]).map wZip
          | _, _ => none
        else none
      else if x = ("enumerate" : Str) then
        if isGl sc x && memS x G.blt && es.all noStar then match tg, es with
          | .Tuple _ _ _, [a] => (trA G n N sc st [a]).map wEnum
          | _, _ => none
        else none
      else if x = ("reversed" : Str) then
        if isGl sc x && memS x G.blt && es.all noStar then match es with
          | [a] => (trE G n N sc st a).map wRevI
          | _ => none
        else none
      else (trE G n N sc st e).map wItems
    | e => (trE G n N sc st e).map wItems
def trG (G : Gs) : Nat → List Str → Scope → (Str → Bool) → Expr → Option (WG × List Nat)
  | 0, _, _, _, _ => none
  | n + 1, N, sc, st, e => match e with
    | .Name x _ => if st x then (ixF x N 0).map fun i => (gVar i, [i]) else none
    | .Tuple es _ _ => if es.all noStar then (trGs G n N sc st es).map fun q => (gTupD es.length q.1, q.2) else none
    | .Subscript o i _ => if noSlice i then match trE G n N sc st o, trE G n N sc st i with
        | some wo, some wi => some (gSubD wo wi, [])
        | _, _ => none
      else none
    | _ => none
def trGs (G : Gs) : Nat → List Str → Scope → (Str → Bool) → List Expr → Option (WGs × List Nat)
  | 0, _, _, _, _ => none
  | n + 1, N, sc, st, es => match es with
    | [] => some (gNilD, [])
    | e :: r => match trG G n N sc st e, trGs G n N sc st r with
      | some (g, l), some (gs, ls) => some (gConsD g gs, l ++ ls)
      | _, _ => none
def trIf (G : Gs) : Nat → List Str → Scope → (Str → Bool) → List Expr → Option WB
  | 0, _, _, _, _ => none
  | n + 1, N, sc, st, es => match es with
    | [] => some tYesD
    | [c] => trT G n N sc st c
    | _ => none
end
end PL
namespace PL
open PySem PySem.Spec L2
structure Snd (G : Gs) (n : Nat) : Prop where
  e : ∀ {X W N sc st k e w}, Good G X W N sc st k → trE G n N sc st e = some w → IE X W e w
  v : ∀ {X W N sc st k op es w pos}, Good G X W N sc st k → trV G n N sc st op es = some w → IE X W (.BoolOp op es pos) w
  t : ∀ {X W N sc st k e w}, Good G X W N sc st k → trT G n N sc st e = some w → IT X W e w
  vt : ∀ {X W N sc st k op es w pos}, Good G X W N sc st k → trVT G n N sc st op es = some w → IW X W (.BoolOp op es pos) w
  a : ∀ {X W N sc st k es w}, Good G X W N sc st k → trA G n N sc st es = some w → IA X W es w
  kw : ∀ {X W N sc st k es w}, Good G X W N sc st k → trK G n N sc st es = some w → IK X W es w
  o : ∀ {X W N sc st k e w}, Good G X W N sc st k → trO G n N sc st e = some w → IO X W e w
  i : ∀ {X W N sc st k e w tg}, Good G X W N sc st k → trI G n N sc st tg e = some w → II X W tg e w
  g : ∀ {X W N sc st k e g ls l}, Good G X W N sc st k → trG G n N sc st e = some (g, ls) → (∀ i ∈ ls, i ∈ l) → IG X W l e g
  gs : ∀ {X W N sc st k es g ls l}, Good G X W N sc st k → trGs G n N sc st es = some (g, ls) → es.all noStar = true → (∀ i ∈ ls, i ∈ l) → IGs X W l es g
  f : ∀ {X N sc st k es w}, Good G X W0 N sc st k → trIf G n N sc st es = some w → ITs X es w
theorem kw_all {pos : Pos} {env : PySem.Env} : ∀ {kws : List Keyword} {ks : List Str}, kwNames kws = some ks → (backToKw pos (keywordEach kws env)).all (·.1.isSome) = true ∧ (backToKw pos (keywordEach kws env)).filterMap (·.1) = ks ∧ (backToKw pos (keywordEach kws env)).any (·.1.isNone) = false ∧ kws.length = ks.length
  | [], ks, h => by cases h; exact ⟨rfl, rfl, rfl, rfl⟩
  | ⟨none, _, _⟩ :: _, _, h => by cases h
  | ⟨some n, e, p⟩ :: r, ks, h => by
    have h' : (kwNames r).map (n :: ·) = some ks := h
    cases e2 : kwNames r with
    | none => rw [e2] at h'; cases h'
    | some ks2 =>
      rw [e2] at h'
      cases h'
      obtain ⟨a, b, c, d⟩ := kw_all (pos := pos) (env := env) e2
      refine ⟨?_, ?_, ?_, ?_⟩
      · show (true && (backToKw pos (keywordEach r env)).all (·.1.isSome)) = true
        rw [a]; rfl
      · show n :: (backToKw pos (keywordEach r env)).filterMap (·.1) = n :: ks2
        rw [b]
      · show (false || (backToKw pos (keywordEach r env)).any (·.1.isNone)) = false
        rw [c]; rfl
      · rw [List.length_cons, List.length_cons, d]
section
variable {G : Gs} {X : Cx} {W : WX} {N : List Str} {sc : Scope} {st : Str → Bool} {k : Nat}
theorem Good.hu (g : Good G X W N sc st k) : X.A.units + 66 < cLine := by have := g.room.room.un; omega
theorem Good.hu64 (g : Good G X W N sc st k) : X.A.units + 64 < cLine := by have := g.room.room.un; omega
theorem Good.gl (g : Good G X W N sc st k) {x : Str} (h : isGl sc x = true) : Gl X x := by
  show X.env.scope.names.lookup x = _
  rw [g.hsc]
  exact gl_of h
theorem Good.vis (g : Good G X W N sc st k) {x : Str} (h : Vis sc x) : Vis X.env.scope x := by rw [g.hsc]; exact h
theorem Good.ndX (g : Good G X W N sc st k) : X.N.Nodup := by rw [g.hN]; exact g.nd
theorem own_ix : ∀ {names : List (Str × NameKind)} {p : Str × Nat}, p ∈ ownOf N names → N[p.2]? = some p.1
  | [], _, h => by cases h
  | (x, .local) :: r, p, h => by
    unfold ownOf at h
    split at h
    · rename_i i e
      rcases List.mem_cons.mp h with rfl | h
      · obtain ⟨j, ej, q⟩ := ixF_of e
        rw [Nat.zero_add] at ej
        subst ej
        exact q
      · exact own_ix h
    · exact own_ix h
  | (x, .cell) :: r, p, h => by
    unfold ownOf at h
    split at h
    · rename_i i e
      rcases List.mem_cons.mp h with rfl | h
      · obtain ⟨j, ej, q⟩ := ixF_of e
        rw [Nat.zero_add] at ej
        subst ej
        exact q
      · exact own_ix h
    · exact own_ix h
  | (x, .free) :: r, p, h => own_ix (names := r) h
  | (x, .globalExplicit) :: r, p, h => own_ix (names := r) h
  | (x, .globalImplicit) :: r, p, h => own_ix (names := r) h
/-- within a block -/
theorem Good.blk (g : Good G X W N sc st k) (scope : Scope) (s : Shared) (H : Hp) (C : Addr) (cl : List (Str × Addr)) (fp : List Addr) : Good G (X.blk s H scope (compEnvC scope cl C X.env) fp) W0 N (relS scope sc) (isLoc scope) k where
  hN := g.hN
  hsc := by
    show relabel scope X.env = relS scope sc
    rw [← g.hsc]
    rfl
  nd := g.nd
  calm := g.calm
  room := g.room
  takes := takes0
  fns := g.fns
  blt := g.blt
  imp := g.imp
  cst := g.cst
  exc := g.exc
  cls := ⟨g.cls.cls, g.cls.isa⟩
  fld := g.fld
  store := fun x hx => by
    unfold isLoc at hx
    split at hx
    · rename_i e
      have q := lookup_relS_keep (sc := sc) (k := .local) (by decide) e
      exact ⟨.inl q, .inr q⟩
    · rename_i e
      have q := lookup_relS_keep (sc := sc) (k := .cell) (by decide) e
      exact ⟨.inr q, .inl (by show (scope.names.lookup x == some .cell) = true; rw [e]; rfl)⟩
    · cases hx
theorem map_some {α β : Type} {f : α → β} {o : Option α} {b : β} (h : o.map f = some b) : ∃ a, o = some a ∧ f a = b := by
  cases o with
  | none => cases h
  | some a => exact ⟨a, rfl, Option.some.inj h⟩
theorem snd_v {n : Nat} (ih : Snd G n) {op : BoolOp} {es : List Expr} {w : WE} {pos : Pos} (g : Good G X W N sc st k) (h : trV G (n + 1) N sc st op es = some w) : IE X W (.BoolOp op es pos) w := by
  cases es with
  | nil => cases h
  | cons a r =>
    cases r with
    | nil => exact ie_one (ih.e g h)
    | cons b r =>
      cases op with
      | And =>
        have h' : (match trE G n N sc st a, trV G n N sc st .And (b :: r) with
          | some wa, some wb => some (wAndV wa wb)
          | _, _ => none) = some w := h
        split at h'
        · rename_i wa wb e1 e2
          cases h'
          exact ie_and (ih.e g e1) (ih.v g e2)
        · cases h'
      | Or =>
        have h' : (match trE G n N sc st a, trV G n N sc st .Or (b :: r) with
          | some wa, some wb => some (wOrV wa wb)
          | _, _ => none) = some w := h
        split at h'
        · rename_i wa wb e1 e2
          cases h'
          exact ie_or (ih.e g e1) (ih.v g e2)
        · cases h'
theorem snd_vt {n : Nat} (ih : Snd G n) {op : BoolOp} {es : List Expr} {w : WB} {pos : Pos} (g : Good G X W N sc st k) (h : trVT G (n + 1) N sc st op es = some w) : IW X W (.BoolOp op es pos) w := by
  cases es with
  | nil => cases h
  | cons a r =>
    cases r with
    | nil =>
      cases op with
      | And => exact iw_and1 (ih.t g h)
      | Or => exact iw_or1 (ih.t g h)
    | cons b r =>
      cases op with
      | And =>
        have h' : (match trT G n N sc st a, trVT G n N sc st .And (b :: r) with
          | some wa, some wb => some (wAndB wa wb)
          | _, _ => none) = some w := h
        split at h'
        · rename_i wa wb e1 e2
          cases h'
          exact iw_and (ih.t g e1) (ih.vt g e2)
        · cases h'
      | Or =>
        have h' : (match trT G n N sc st a, trVT G n N sc st .Or (b :: r) with
          | some wa, some wb => some (wOrB wa wb)
          | _, _ => none) = some w := h
        split at h'
        · rename_i wa wb e1 e2
          cases h'
          exact iw_or (ih.t g e1) (ih.vt g e2)
        · cases h'
theorem snd_a {n : Nat} (ih : Snd G n) {es : List Expr} {w : WA} (g : Good G X W N sc st k) (h : trA G (n + 1) N sc st es = some w) : IA X W es w := by
  cases es with
  | nil => cases h; exact ia_nil
  | cons e r =>
    have h' : (if noStar e then match trE G n N sc st e, trA G n N sc st r with
        | some w, some ws => some (wCons w ws)
        | _, _ => none
      else none) = some w := h
    split at h'
    · rename_i hs
      split at h'
      · rename_i w1 ws e1 e2
        cases h'
        exact ia_cons (ih.e g e1) (ih.a g e2) (star_cons hs)
      · cases h'
    · cases h'
theorem snd_k {n : Nat} (ih : Snd G n) {es : List Keyword} {w : WA} (g : Good G X W N sc st k) (h : trK G (n + 1) N sc st es = some w) : IK X W es w := by
  cases es with
  | nil => cases h; exact ik_nil
  | cons e r =>
    obtain ⟨nm, e, p⟩ := e
    have h' : (match trE G n N sc st e, trK G n N sc st r with
        | some w, some ws => some (wCons w ws)
        | _, _ => none) = some w := h
    split at h'
    · rename_i w1 ws e1 e2
      cases h'
      exact ik_cons (ih.e g e1) (ih.kw g e2)
    · cases h'
theorem snd_o {n : Nat} (ih : Snd G n) {e : Option Expr} {w : Option WE} (g : Good G X W N sc st k) (h : trO G (n + 1) N sc st e = some w) : IO X W e w := by
  cases e with
  | none => cases h; exact io_none
  | some e =>
    obtain ⟨w', e1, rfl⟩ := map_some (show (trE G n N sc st e).map some = some w from h)
    exact io_some (ih.e g e1)
theorem snd_f {n : Nat} (ih : Snd G n) {es : List Expr} {w : WB} (g : Good G X W0 N sc st k) (h : trIf G (n + 1) N sc st es = some w) : ITs X es w := by
  cases es with
  | nil => cases h; exact its_nil
  | cons c r =>
    cases r with
    | nil => exact its_one (ih.t g h)
    | cons d r => cases h
theorem snd_t {n : Nat} (ih : Snd G n) {e : Expr} {w : WB} (g : Good G X W N sc st k) (h : trT G (n + 1) N sc st e = some w) : IT X W e w := by
  have gen : ∀ {e : Expr}, (if plainT e then (trE G n N sc st e).map wTru else none) = some w → IT X W e w := fun {e} h => by
    split at h
    · rename_i hp
      obtain ⟨w', e1, rfl⟩ := map_some h
      exact it_tru (ih.e g e1) (tru_of hp)
    · cases h
  unfold trT at h
  split at h
  · rename_i a op b p
    split at h
    · rename_i hs
      split at h
      · rename_i o wa wb e1 e2 e3
        cases h
        exact it_cmp (cmp_ok g.hu e1) (ih.e g e2) (ih.e g e3) (set_mark hs)
      · cases h
    · cases h
  · split at h
    · rename_i hs
      split at h
      · rename_i o o' wa wb wc e1 e1' e2 e3 e4
        cases h
        exact it_chain (cmp_ok g.hu e1) (cmp_ok g.hu e1') (ih.e g e2) (ih.e g e3) (ih.e g e4) (set_mark hs)
      · cases h
    · cases h
  · exact (ih.vt g h).pt
  · obtain ⟨w', e1, rfl⟩ := map_some h
    exact it_not (ih.t g e1)
  · exact gen h
theorem snd_gs {n : Nat} (ih : Snd G n) {es : List Expr} {gg : WGs} {ls l : List Nat} (g : Good G X W N sc st k) (h : trGs G (n + 1) N sc st es = some (gg, ls)) (hns : es.all noStar = true) (hl : ∀ i ∈ ls, i ∈ l) : IGs X W l es gg := by
  cases es with
  | nil => cases h; exact igs_nil
  | cons e r =>
    have h' : (match trG G n N sc st e, trGs G n N sc st r with
      | some (g, l), some (gs, ls) => some (gConsD g gs, l ++ ls)
      | _, _ => none) = some (gg, ls) := h
    rw [List.all_cons, Bool.and_eq_true] at hns
    split at h'
    · rename_i g1 l1 gs1 ls1 e1 e2
      cases h'
      refine igs_cons (ih.g g e1 fun i hi => hl i (List.mem_append_left _ hi)) (ih.gs g e2 hns.2 fun i hi => hl i (List.mem_append_right _ hi)) ?_
      cases e <;> first | rfl | cases hns.1
    · cases h'
theorem asg_each {env : PySem.Env} : ∀ {es : List Expr}, es.all noStar = true → (assignEach es env).length = es.length ∧ (assignEach es env).findIdx? (·.1) = none
  | [], _ => ⟨rfl, rfl⟩
  | e :: es, h => by
    rw [List.all_cons, Bool.and_eq_true] at h
    obtain ⟨a, b⟩ := asg_each (env := env) h.2
    have hc : assignEach (e :: es) env = (false, assign e env) :: assignEach es env := by cases e <;> first | rfl | cases h.1
    rw [hc]
    refine ⟨by rw [List.length_cons, List.length_cons, a], ?_⟩
    rw [List.findIdx?_cons, b]
    rfl
theorem snd_g {n : Nat} (ih : Snd G n) {e : Expr} {gg : WG} {ls l : List Nat} (g : Good G X W N sc st k) (h : trG G (n + 1) N sc st e = some (gg, ls)) (hl : ∀ i ∈ ls, i ∈ l) : IG X W l e gg := by
  unfold trG at h
  split at h
  · rename_i x p
    split at h
    · rename_i hst
      obtain ⟨i, e1, e2⟩ := map_some h
      cases e2
      obtain ⟨j, ej, q⟩ := ixF_of e1
      rw [Nat.zero_add] at ej
      subst ej
      obtain ⟨hL, hf⟩ := g.store x hst
      exact ig_var g.ndX (by rw [g.hN]; exact q) (by rw [g.hsc]; exact hL) (by rw [g.hsc]; exact hf) (hl _ (List.mem_singleton.mpr rfl))
    · cases h
  · rename_i es k2 p
    split at h
    · rename_i hns
      obtain ⟨q, e1, e2⟩ := map_some h
      obtain ⟨g1, l1⟩ := q
      cases e2
      obtain ⟨a, b⟩ := asg_each (env := X.env) hns
      exact ig_tup g.calm (ih.gs g e1 hns hl) a b
    · cases h
  · rename_i o i p
    split at h
    · rename_i hns
      split at h
      · rename_i wo wi e1 e2
        cases h
        exact ig_sub (ih.e g e1) (ih.e g e2) fun v => by cases i <;> first | rfl | cases hns
      · cases h
    · cases h
  · cases h
theorem all2 {p : Expr → Bool} {a b : Expr} (h : [a, b].all p = true) : p a = true ∧ p b = true := by
  simp only [List.all_cons, List.all_nil, Bool.and_true, Bool.and_eq_true] at h
  exact h
theorem snd_i {n : Nat} (ih : Snd G n) {e tg : Expr} {w : WI} (g : Good G X W N sc st k) (h : trI G (n + 1) N sc st tg e = some w) : II X W tg e w := by
  have gen : ∀ {e : Expr}, (trE G n N sc st e).map wItems = some w → II X W tg e w := fun {e} h => by
    obtain ⟨w', e1, rfl⟩ := map_some h
    exact ii_items (ih.e g e1)
  unfold trI at h
  split at h
  · rename_i x p es p2
    split at h
    · rename_i hx
      subst hx
      split at h
      · rename_i hc
        simp only [Bool.and_eq_true] at hc
        obtain ⟨⟨hg, hb⟩, hns⟩ := hc
        have gl := g.gl hg
        have hm := g.blt _ (memS_of hb)
        split at h
        · rename_i a
          obtain ⟨w', e1, rfl⟩ := map_some h
          have ha : noStar a = true := by simpa using hns
          exact ii_range1 gl hm (ih.a g e1) (star_cons ha)
        · rename_i a b
          obtain ⟨w', e1, rfl⟩ := map_some h
          obtain ⟨ha, hb⟩ := all2 hns
          exact ii_range2 gl hm (ih.a g e1) (by rw [star_cons ha, star_cons hb]; rfl) (star_cons hb)
        · cases h
      · cases h
    · split at h
      · rename_i hx
        subst hx
        split at h
        · rename_i hc
          simp only [Bool.and_eq_true] at hc
          obtain ⟨⟨hg, hb⟩, hns⟩ := hc
          split at h
          · rename_i elts kk tp a b
            obtain ⟨w', e1, rfl⟩ := map_some h
            obtain ⟨ha, hb2⟩ := all2 hns
            exact ii_zip (g.gl hg) (g.blt _ (memS_of hb)) (ih.a g e1) (star_cons ha) (by rw [star_cons hb2]; rfl)
          · cases h
        · cases h
      · split at h
        · rename_i hx
          subst hx
          split at h
          · rename_i hc
            simp only [Bool.and_eq_true] at hc
            obtain ⟨⟨hg, hb⟩, hns⟩ := hc
            split at h
            · rename_i elts kk tp a
              obtain ⟨w', e1, rfl⟩ := map_some h
              have ha : noStar a = true := by simpa using hns
              exact ii_enum (g.gl hg) (g.blt _ (memS_of hb)) (ih.a g e1) (star_cons ha)
            · cases h
          · cases h
        · split at h
          · rename_i hx
            subst hx
            split at h
            · rename_i hc
              simp only [Bool.and_eq_true] at hc
              obtain ⟨⟨hg, hb⟩, hns⟩ := hc
              split at h
              · rename_i a
                obtain ⟨w', e1, rfl⟩ := map_some h
                have ha : noStar a = true := by simpa using hns
                exact ii_rev (g.gl hg) (g.blt _ (memS_of hb)) (ih.e g e1) (star_cons ha)
              · cases h
            · cases h
          · exact gen h
  · exact gen h
theorem snd_lc {n : Nat} (ih : Snd G n) {elt tg iter : Expr} {ifs : List Expr} {scope : Scope} {pos : Pos} {w : WE} (g : Good G X W N sc st k) (h : (if blkC N sc scope (ownOf N scope.names) && noSet iter then
        match trI G n N sc st tg iter, trG G n N (relS scope sc) (isLoc scope) tg, trIf G n N (relS scope sc) (isLoc scope) ifs, trE G n N (relS scope sc) (isLoc scope) elt with
        | some wi, some (g, l), some t, some w => if l.all (fun i => ((ownOf N scope.names).map (fun q : Str × Nat => q.2)).contains i) then some ((if memN (pos.line, pos.col + 1000000) G.muts then wLcN else wLc) wi g t w ((ownOf N scope.names).map (fun q : Str × Nat => q.2))) else none
        | _, _, _, _ => none
      else none) = some w) : IE X W (.ListComp elt [⟨tg, iter, ifs, 0⟩] scope pos) w := by
  split at h
  · rename_i hc
    rw [Bool.and_eq_true] at hc
    split at h
    · rename_i wi gg l t w1 e1 e2 e3 e4
      split at h
      · rename_i hl
        cases h
        have ok : BlkOk X.N X.env.scope scope (ownOf N scope.names) := by
          rw [g.hN, g.hsc]
          exact blkOk_by hc.1
        split
        · refine ie_lcN (own := ownOf N scope.names) g.calm g.ndX (ih.i g e1) ok (fun s H C cl fp => ih.g (g.blk scope s H C cl fp) e2 fun i hi => ?_) (fun s H C cl fp => ih.f (g.blk scope s H C cl fp) e3) (fun s H C cl fp => ih.e (g.blk scope s H C cl fp) e4) (set_iter hc.2)
          exact List.contains_iff_mem.mp (List.all_eq_true.mp hl i hi)
        · refine ie_lc (own := ownOf N scope.names) g.calm g.ndX (ih.i g e1) ok (fun s H C cl fp => ih.g (g.blk scope s H C cl fp) e2 fun i hi => ?_) (fun s H C cl fp => ih.f (g.blk scope s H C cl fp) e3) (fun s H C cl fp => ih.e (g.blk scope s H C cl fp) e4) (set_iter hc.2)
          exact List.contains_iff_mem.mp (List.all_eq_true.mp hl i hi)
      · cases h
    · cases h
  · cases h
theorem snd_call {n : Nat} (ih : Snd G n) {x : Str} {es : List Expr} {kws : List Keyword} {p pos : Pos} {w : WE} (g : Good G X W N sc st k) (h : (if isGl sc x && plainName x && es.all noStar then
        match findF x G.fns with
        | some fe => match kwNames kws with
          | some ks => if memP (es.length, ks) fe.pats then match trA G n N sc st es, trK G n N sc st kws with
              | some was, some wks => some (wCall fe.con (ixOf fe.ps es.length ks) was wks)
              | _, _ => none
            else none
          | none => none
        | none => match kws, es with
          | [], _ :: _ => match findS x G.imp with
            | some id => match impOf id, trA G n N sc st es with
              | some o, some was => some (wN o was)
              | _, _ => none
            | none => if memS x G.blt then (if x = ("isinstance" : Str) then match es with
                | [e, .Name t _] => if isGl sc t && plainName t && memS t G.blt then match tyOf t, trE G n N sc st e with
                    | some bt, some w => some (wIsT bt w)
                    | _, _ => none
                  else none
                | _ => none
              else match bltOf (memN (pos.line, pos.col + 2000000) G.muts) x, trA G n N sc st es with
                | some (_, o), some was => some (wN o was)
                | _, _ => none)
              else none
          | _, _ => none
      else none) = some w) : IE X W (.Call (.Name x p) es kws pos) w := by
  split at h
  · rename_i hc
    simp only [Bool.and_eq_true] at hc
    obtain ⟨⟨hg, hp⟩, hns⟩ := hc
    have gl := g.gl hg
    obtain ⟨d1, d2, d3⟩ := plain_of hp
    split at h
    · rename_i fe ef
      obtain ⟨hfe, rfl⟩ := findF_of ef
      split at h
      · rename_i ks ek
        obtain ⟨k1, k2, k3, k4⟩ := kw_all (pos := pos) (env := X.env) ek
        split at h
        · rename_i hm
          split at h
          · rename_i was wks e1 e2
            cases h
            cases es with
            | nil =>
              have ew : was = wNil := by
                cases n with
                | zero => cases e1
                | succ n => cases e1; rfl
              subst ew
              exact ie_call0 (g.fns fe hfe) (memP_of hm) g.takes g.room gl d1 (ih.kw g e2) k4 k1 k2 (by rw [k3]; rfl)
            | cons e es =>
              have hns' := hns
              rw [List.all_cons, Bool.and_eq_true] at hns'
              exact ie_call (g.fns fe hfe) (memP_of hm) g.takes g.room gl d1 (ih.a g e1) (ih.kw g e2) rfl k4 k1 k2 (star_cons hns'.1) (by rw [star_any hns, k3]; rfl)
          · cases h
        · cases h
      · cases h
    · split at h
      · rename_i e r
        rw [List.all_cons, Bool.and_eq_true] at hns
        split at h
        · rename_i id ei
          split at h
          · rename_i o was e1 e2
            cases h
            exact ie_imp (imp_ok e1) gl (g.imp _ (findS_of ei)) (ih.a g e2) d1 (star_cons hns.1) (star_any hns.2)
          · cases h
        · split at h
          · rename_i hb
            split at h
            · rename_i hx
              subst hx
              split at h
              · rename_i e' t p2 hee
                split at h
                · rename_i hc2
                  simp only [Bool.and_eq_true] at hc2
                  obtain ⟨⟨gt, pt⟩, bt⟩ := hc2
                  split at h
                  · rename_i ty w1 et ew
                    cases h
                    cases hee
                    obtain ⟨t1, t2, t3⟩ := plain_of pt
                    exact ie_isT gl (g.blt _ (memS_of hb)) (g.gl gt) (g.blt _ (memS_of bt)) (ty_ok et) t3 t1 (ih.e g ew) (star_cons hns.1)
                  · cases h
                · cases h
              · cases h
            · split at h
              · rename_i f o was e1 e2
                cases h
                obtain ⟨hf, hv, hd⟩ := blt_ok g.calm g.room.gd g.hu e1
                have hm := g.blt _ (memS_of hb)
                rcases hf with ⟨id, rfl⟩ | ⟨T, rfl⟩
                · exact ie_blt hd gl hm hv (ih.a g e2) d3 d1 (star_cons hns.1) (star_any hns.2)
                · exact ie_typ hd gl hm hv (ih.a g e2) d3 d1 (star_cons hns.1) (star_any hns.2)
              · cases h
          · cases h
      · cases h
  · cases h
theorem snd_sub {n : Nat} (ih : Snd G n) {a b : Expr} {pos : Pos} {w : WE} (g : Good G X W N sc st k) (h : (match b with
      | .Slice none none (some (.UnaryOp .USub (.Constant (.int k) _ _) _)) _ => if k = 1 then (trE G n N sc st a).map (if memN (pos.line, pos.col) G.muts then wRevN else wRev) else none
      | .Slice none (some (.Constant (.int z) _ _)) (some (.UnaryOp .USub (.Constant (.int k) _ _) _)) _ => if z = 0 ∧ k = 1 then (trE G n N sc st a).map wBack0 else none
      | .Slice lo hi none _ => match trE G n N sc st a, trO G n N sc st lo, trO G n N sc st hi with
        | some wa, some wl, some wh => some (wSlice wa wl wh)
        | _, _, _ => none
      | b => if noSlice b then match trE G n N sc st a, trE G n N sc st b with
          | some wa, some wb => some (w2 oIdx wa wb)
          | _, _ => none
        else none) = some w) : IE X W (.Subscript a b pos) w := by
  split at h
  · split at h
    · rename_i hk
      subst hk
      obtain ⟨w', e1, e2⟩ := map_some h
      split at e2
      · subst e2; exact ie_revN (ih.e g e1)
      · subst e2; exact ie_rev (ih.e g e1)
    · cases h
  · split at h
    · rename_i hk
      obtain ⟨rfl, rfl⟩ := hk
      obtain ⟨w', e1, rfl⟩ := map_some h
      exact ie_back0 (ih.e g e1)
    · cases h
  · split at h
    · rename_i wa wl wh e1 e2 e3
      cases h
      exact ie_slice (ih.e g e1) (ih.o g e2) (ih.o g e3)
    · cases h
  · split at h
    · rename_i hs
      split at h
      · rename_i wa wb e1 e2
        cases h
        exact ie_idx (ih.e g e1) (ih.e g e2) (plain_ix hs)
      · cases h
    · cases h
theorem snd_meth {n : Nat} (ih : Snd G n) {o : Expr} {m : Str} {apos cpos : Pos} {es : List Expr} {w : WE} (g : Good G X W N sc st k) (h : (if noSuper o && apos.endLine == cpos.line then
        if m = ("append" : Str) then match es with
          | [e] => if noStar e then match trE G n N sc st o, trE G n N sc st e with
              | some wo, some we => some (wApp wo we)
              | _, _ => none
            else none
          | _ => none
        else if m = ("index" : Str) then match es with
          | [e] => if noStar e then match trE G n N sc st o, trE G n N sc st e with
              | some wo, some we => some (wIndex wo we)
              | _, _ => none
            else none
          | _ => none
        else if m = ("pop" : Str) then match es with
          | [] => (trE G n N sc st o).map wPop
          | _ => none
        else none
      else none) = some w) : IE X W (.Call (.Attribute o m apos) es [] cpos) w := by
  split at h
  · rename_i hc
    rw [Bool.and_eq_true] at hc
    split at h
    · rename_i hm
      subst hm
      split at h
      · rename_i e
        split at h
        · rename_i hs
          split at h
          · rename_i wo we e1 e2
            cases h
            exact ie_append (ih.e g e1) (ih.e g e2) (base_of hc.1) hc.2 (by rw [star_cons hs]; rfl) (star_cons hs)
          · cases h
        · cases h
      · cases h
    · split at h
      · rename_i hm
        subst hm
        split at h
        · rename_i e
          split at h
          · rename_i hs
            split at h
            · rename_i wo we e1 e2
              cases h
              exact ie_index (by have := g.hu; omega) (ih.e g e1) (ih.e g e2) (base_of hc.1) hc.2 (by rw [star_cons hs]; rfl) (star_cons hs)
            · cases h
          · cases h
        · cases h
      · split at h
        · rename_i hm
          subst hm
          split at h
          · obtain ⟨w', e1, rfl⟩ := map_some h
            exact ie_pop (ih.e g e1) (base_of hc.1) hc.2
          · cases h
        · cases h
  · cases h
theorem snd_e {n : Nat} (ih : Snd G n) {e : Expr} {w : WE} (g : Good G X W N sc st k) (h : trE G (n + 1) N sc st e = some w) : IE X W e w := by
  unfold trE at h
  split at h
  · cases h; exact ie_int
  · cases h; exact ie_bl
  · cases h; exact ie_non
  · cases h; exact ie_str
  · rename_i x p
    split at h
    · rename_i i ei
      cases h
      obtain ⟨a, b, c⟩ := slot_of ei
      obtain ⟨d1, d2, d3⟩ := plain_of c
      exact ie_var (by rw [g.hN]; exact a) (g.vis b) d1 d2
    · split at h
      · rename_i hc
        rw [Bool.and_eq_true] at hc
        obtain ⟨d, ed, rfl⟩ := map_some h
        obtain ⟨d1, d2, d3⟩ := plain_of hc.2
        obtain ⟨v, u, hm, r, rp⟩ := g.cst _ (findS_of ed)
        exact (pe_glob (g.gl hc.1) hm r d1).of fun σ H Q ⟨env, S, P, x, re, rs, h, hq, _⟩ => hq.here h (rp H) rs
      · cases h
  · rename_i a op b p
    split at h
    · rename_i o wa wb e1 e2 e3
      cases h
      exact ie_op (op_ok e1) (ih.e g e2) (ih.e g e3)
    · cases h
  · obtain ⟨w', e1, rfl⟩ := map_some h
    exact ie_un d_neg (ih.e g e1)
  · obtain ⟨w', e1, rfl⟩ := map_some h
    exact ie_not (ih.e g e1)
  · split at h
    · rename_i hs
      split at h
      · rename_i o wa wb e1 e2 e3
        cases h
        exact ie_cmp (cmp_ok g.hu e1) (ih.e g e2) (ih.e g e3) (set_mark hs)
      · cases h
    · cases h
  · split at h
    · rename_i hs
      split at h
      · rename_i o o' wa wb wc e1 e1' e2 e3 e4
        cases h
        exact ie_chain (cmp_ok g.hu e1) (cmp_ok g.hu e1') (ih.e g e2) (ih.e g e3) (ih.e g e4) (set_mark hs)
      · cases h
    · cases h
  · exact ih.v g h
  · split at h
    · rename_i wc wa wb e1 e2 e3
      cases h
      exact ie_if (ih.t g e1) (ih.e g e2) (ih.e g e3)
    · cases h
  · obtain ⟨w', e1, rfl⟩ := map_some h
    exact ie_tup (ih.a g e1)
  · obtain ⟨w', e1, e2⟩ := map_some h
    split at e2
    · subst e2; exact ie_new (ih.a g e1)
    · subst e2; exact ie_lst (ih.a g e1)
  · exact snd_sub ih g h
  · exact snd_call ih g h
  · exact snd_meth ih g h
  · exact snd_lc ih g h
  · cases h
theorem snd (G : Gs) : ∀ n : Nat, Snd G n
  | 0 => ⟨(fun _ h => by cases h), (fun _ h => by cases h), (fun _ h => by cases h), (fun _ h => by cases h), (fun _ h => by cases h), (fun _ h => by cases h), (fun _ h => by cases h), (fun _ h => by cases h), (fun _ h _ => by cases h), (fun _ h _ _ => by cases h), (fun _ h => by cases h)⟩
  | n + 1 => have ih := snd G n
    ⟨fun g h => snd_e ih g h, fun g h => snd_v ih g h, fun g h => snd_t ih g h, fun g h => snd_vt ih g h, fun g h => snd_a ih g h, fun g h => snd_k ih g h, fun g h => snd_o ih g h, fun g h => snd_i ih g h, fun g h hl => snd_g ih g h hl, fun g h hns hl => snd_gs ih g h hns hl, fun g h => snd_f ih g h⟩
end
end PL
namespace PL
open PySem PySem.Spec L2
/-! ### suites that return -/
mutual
def trX (G : Gs) : Nat → List Str → Scope → Option (Nat × Str) → Expr → Option FX
  | 0, _, _, _, _ => none
  | n + 1, N, sc, i, e => match e with
    | .Constant (.int k) _ _ => some (fC (.int k))
    | .Constant (.bool k) _ _ => some (fC (.bl k))
    | .Constant .none _ _ => some (fC .non)
    | .Constant (.str k) _ _ => some (fC (.str k))
    | .Attribute (.Name x _) fl _ => match i with
      | some (_, nm) => if x = nm then (if memS fl G.flds then some (fFld fl) else none) else none
      | none => none
    | .IfExp c a b _ => match trXB G n N sc i c, trX G n N sc i a, trX G n N sc i b with
      | some t, some f, some g => some (fIf t f g)
      | _, _, _ => none
    | .Tuple es _ _ => (trXA G n N sc i es).map fTup
    | .List es _ => (trXA G n N sc i es).map fLst
    | .Compare a [.Eq] [b] _ => match trX G n N sc i a, trX G n N sc i b with
      | some f, some g => if behindInMarks .Eq b = false then some (fEq f g) else none
      | _, _ => none
    | .UnaryOp .USub a _ => (trX G n N sc i a).map fNeg
    | _ => none
def trXB (G : Gs) : Nat → List Str → Scope → Option (Nat × Str) → Expr → Option (XD → Option Bool)
  | 0, _, _, _, _ => none
  | n + 1, N, sc, i, e => match e with
    | .Call (.Name f _) [.Name x _, .Name m _] [] _ => match i with
      | some (_, nm) => if f = ("isinstance" : Str) then (if x = nm then (if isGl sc "isinstance" && memS "isinstance" G.blt && isGl sc m && memS m G.cls && plainName m then some (fIs G.sub m) else none) else none) else none
      | none => none
    | .UnaryOp .Not a _ => (trXB G n N sc i a).map fNotB
    | .BoolOp .And [a, b] _ => match trXB G n N sc i a, trXB G n N sc i b with
      | some f, some g => some (fAndB f g)
      | _, _ => none
    | .BoolOp .Or [a, b] _ => match trXB G n N sc i a, trXB G n N sc i b with
      | some f, some g => some (fOrB f g)
      | _, _ => none
    | _ => none
def trXA (G : Gs) : Nat → List Str → Scope → Option (Nat × Str) → List Expr → Option (XD → Option (List D))
  | 0, _, _, _, _ => none
  | n + 1, N, sc, i, es => match es with
    | [] => some faNil
    | e :: r => if noStar e then match trX G n N sc i e, trXA G n N sc i r with
        | some f, some g => some (faCons f g)
        | _, _ => none
      else none
end
/-- the name of the exception -/
def HdOk (X : Cx) : Option (Nat × Str) → Prop
  | some (k, nm) => X.N[k]? = some nm ∧ Vis X.env.scope nm ∧ plainName nm = true
  | none => True
structure SndX (G : Gs) (n : Nat) : Prop where
  x : ∀ {X W N sc st k i e f}, Good G X W N sc st k → HdOk X i → trX G n N sc i e = some f → IX X G.cls (i.map (fun q : Nat × Str => q.1)) e f
  b : ∀ {X W N sc st k i e f}, Good G X W N sc st k → HdOk X i → trXB G n N sc i e = some f → IXB X G.cls (i.map (fun q : Nat × Str => q.1)) e f
  a : ∀ {X W N sc st k i es f}, Good G X W N sc st k → HdOk X i → trXA G n N sc i es = some f → IXA X G.cls (i.map (fun q : Nat × Str => q.1)) es f
section
variable {G : Gs} {X : Cx} {W : WX} {N : List Str} {sc : Scope} {st : Str → Bool} {k : Nat} {i : Option (Nat × Str)}
theorem sndx_x {n : Nat} {e : Expr} {f : FX} (ih : SndX G n) (g : Good G X W N sc st k) (hi : HdOk X i) (h : trX G (n + 1) N sc i e = some f) : IX X G.cls (i.map (fun q : Nat × Str => q.1)) e f := by
  unfold trX at h
  split at h
  · cases h; exact ix_int
  · cases h; exact ix_bl
  · cases h; exact ix_non
  · cases h; exact ix_str
  · rename_i x p fl p2
    split at h
    · rename_i j nm
      split at h
      · rename_i hx
        subst hx
        split at h
        · rename_i hm
          cases h
          obtain ⟨h1, h2, h3⟩ := hi
          obtain ⟨d1, d2, d3⟩ := plain_of h3
          exact ix_fld g.cls (g.fld _ (memS_of hm)) h1 h2 d1 d2 rfl
        · cases h
      · cases h
    · cases h
  · split at h
    · rename_i t f1 g1 e1 e2 e3
      cases h
      exact ix_if (ih.b g hi e1) (ih.x g hi e2) (ih.x g hi e3)
    · cases h
  · obtain ⟨w', e1, rfl⟩ := map_some h
    exact ix_tup (ih.a g hi e1)
  · obtain ⟨w', e1, rfl⟩ := map_some h
    exact ix_lst (ih.a g hi e1)
  · split at h
    · rename_i f1 g1 e1 e2
      split at h
      · rename_i hb
        cases h
        exact ix_eq (ih.x g hi e1) (ih.x g hi e2) hb
      · cases h
    · cases h
  · obtain ⟨w', e1, rfl⟩ := map_some h
    exact ix_neg (ih.x g hi e1)
  · cases h
theorem sndx_b {n : Nat} {e : Expr} {f : XD → Option Bool} (ih : SndX G n) (g : Good G X W N sc st k) (hi : HdOk X i) (h : trXB G (n + 1) N sc i e = some f) : IXB X G.cls (i.map (fun q : Nat × Str => q.1)) e f := by
  unfold trXB at h
  split at h
  · rename_i f0 p x p2 m p3 p4
    split at h
    · rename_i j nm
      split at h
      · rename_i hf
        subst hf
        split at h
        · rename_i hx
          subst hx
          split at h
          · rename_i hc
            simp only [Bool.and_eq_true] at hc
            obtain ⟨⟨⟨⟨c1, c2⟩, c3⟩, c4⟩, c5⟩ := hc
            cases h
            obtain ⟨h1, h2, h3⟩ := hi
            obtain ⟨d1, d2, d3⟩ := plain_of h3
            obtain ⟨m1, m2, m3⟩ := plain_of c5
            exact ixb_of (ix_is g.cls (memS_of c4) (g.gl c3) (g.gl c1) (g.blt _ (memS_of c2)) h1 h2 d1 d2 m1 rfl rfl rfl) (fun _ _ => rfl)
          · cases h
        · cases h
      · cases h
    · cases h
  · obtain ⟨w', e1, rfl⟩ := map_some h
    exact ixb_not (ih.b g hi e1)
  · split at h
    · rename_i f1 g1 e1 e2
      cases h
      exact ixb_and (ih.b g hi e1) (ih.b g hi e2)
    · cases h
  · split at h
    · rename_i f1 g1 e1 e2
      cases h
      exact ixb_or (ih.b g hi e1) (ih.b g hi e2)
    · cases h
  · cases h
theorem sndx_a {n : Nat} {es : List Expr} {f : XD → Option (List D)} (ih : SndX G n) (g : Good G X W N sc st k) (hi : HdOk X i) (h : trXA G (n + 1) N sc i es = some f) : IXA X G.cls (i.map (fun q : Nat × Str => q.1)) es f := by
  cases es with
  | nil => cases h; exact ixa_nil
  | cons e r =>
    have h' : (if noStar e then match trX G n N sc i e, trXA G n N sc i r with
        | some f, some g => some (faCons f g)
        | _, _ => none
      else none) = some f := h
    split at h'
    · rename_i hs
      split at h'
      · rename_i f1 g1 e1 e2
        cases h'
        exact ixa_cons (ih.x g hi e1) (ih.a g hi e2) (fun env => star_cons hs)
      · cases h'
    · cases h'
end
theorem sndx (G : Gs) : ∀ n : Nat, SndX G n
  | 0 => ⟨(fun _ _ h => by cases h), (fun _ _ h => by cases h), (fun _ _ h => by cases h)⟩
  | n + 1 => have ih := sndx G n
    ⟨fun g hi h => sndx_x ih g hi h, fun g hi h => sndx_b ih g hi h, fun g hi h => sndx_a ih g hi h⟩
end PL
namespace PL
open PySem PySem.Spec L2
/-! ### statements: from the text to the readings -/
/-- is the new list put straight into its name -/
def lcSwap (sc : Scope) (y : Str) (py pos : Pos) (scope : Scope) : Bool := isLocal sc y && (py.line == pos.line) && !(scope.names.any fun (n, k) => n == y && (k == .local || k == .cell))
def asgG (G : Gs) (n : Nat) (N : List Str) (sc : Scope) (t e : Expr) : Option WS := if noComp e && swNone sc [t] e && noStar t then match trG G n N sc (isLoc sc) t, trE G n N sc (isLoc sc) e with
    | some (g, _), some w => some (sSet w g)
    | _, _ => none
  else none
def trAsg (G : Gs) (n : Nat) (N : List Str) (sc : Scope) (t e : Expr) : Option WS := match t, e with
  | .Name y py, .ListComp _ [⟨_, _, _, 0⟩] scope pos => if lcSwap sc y py pos scope then match ixF y N 0, trE G n N sc (isLoc sc) e with
      | some i, some w => some (sSet w (gVar i))
      | _, _ => none
    else match trG G n N sc (isLoc sc) (.Name y py), trE G n N sc (isLoc sc) e with
      | some (g, _), some w => some (sSet w g)
      | _, _ => none
  | .Tuple [.Name x px, .Name y py] kt pt, .Tuple [a, b] k2 pt2 => if swOk sc [(x, px), (y, py)] [a, b] && !decide (x = y) then match ixF x N 0, ixF y N 0, trA G n N sc (isLoc sc) [a, b] with
      | some i, some j, some w => some (sPar2 i j w)
      | _, _, _ => none
    else asgG G n N sc (.Tuple [.Name x px, .Name y py] kt pt) (.Tuple [a, b] k2 pt2)
  | .Tuple [.Name x px, .Name y py, .Name z pz] kt pt, .Tuple [a, b, c] k2 pt2 => if swOk sc [(x, px), (y, py), (z, pz)] [a, b, c] && (!decide (x = y) && !decide (x = z) && !decide (y = z)) then match ixF x N 0, ixF y N 0, ixF z N 0, trA G n N sc (isLoc sc) [a, b, c] with
      | some i, some j, some k, some w => some (sPar3 i j k w)
      | _, _, _, _ => none
    else asgG G n N sc (.Tuple [.Name x px, .Name y py, .Name z pz] kt pt) (.Tuple [a, b, c] k2 pt2)
  | t, e => asgG G n N sc t e
def stPos : Stmt → Nat × Nat
  | .Assign _ _ p => (p.line, p.col)
  | .Return _ p => (p.line, p.col)
  | .For _ _ _ _ p => (p.line, p.col)
  | .If _ _ _ p => (p.line, p.col)
  | .Expr _ p => (p.line, p.col)
  | .While _ _ _ p => (p.line, p.col)
  | _ => (0, 0)
def ghosts (N : List Str) (st : Stmt) : List (Nat × Nat × Str) → WS → WS
  | [], w => w
  | (l, c, x) :: r, w => if (l, c) = stPos st then (match ixF x N 0 with
    | some i => sPre i (ghosts N st r w)
    | none => ghosts N st r w) else ghosts N st r w
theorem is_ghosts {X : Cx} {W : WX} {st : Stmt} {N : List Str} {w : WS} (h : IS X W st w) : ∀ l : List (Nat × Nat × Str), IS X W st (ghosts N st l w)
  | [] => h
  | (l, c, x) :: r => by
    unfold ghosts
    split
    · split
      · exact is_pre (is_ghosts h r)
      · exact is_ghosts h r
    · exact is_ghosts h r
mutual
def trS (G : Gs) : Nat → List Str → Scope → Stmt → Option WS
  | 0, _, _, _ => none
  | n + 1, N, sc, s => match s with
    | .Pass _ => some sSkip
    | .Break _ => some sBreak
    | .Continue _ => some sCont
    | .Expr (.Constant (.str _) _ _) _ => some sSkip
    | .Expr e _ => if noComp e then (trE G n N sc (isLoc sc) e).map sExpr else none
    | .Return none _ => some sRetN
    | .Return (some e) _ => (trE G n N sc (isLoc sc) e).map sRet
    | .If c a b _ => match trT G n N sc (isLoc sc) c, trSs G n N sc a, trSs G n N sc b with
      | some t, some u, some v => some (sIf t u v)
      | _, _, _ => none
    | .While c b [] _ => match trT G n N sc (isLoc sc) c, trSs G n N sc b with
      | some t, some u => some (sWhile t u)
      | _, _ => none
    | .For tg it b [] _ => if noSet it then match trI G n N sc (isLoc sc) tg it, trG G n N sc (isLoc sc) tg, trSs G n N sc b with
        | some wi, some (g, _), some u => some (sFor wi g u)
        | _, _, _ => none
      else none
    | .Assign [t] e _ => trAsg G n N sc t e
    | .Raise (some (.Call (.Name x _) [a] [] _)) none _ => match findS x G.exc with
      | some f => if isGl sc x && plainName x && noStar a then (trA G n N sc (isLoc sc) [a]).map (sRaise x f) else none
      | none => none
    | .Try b [.ExceptHandler (some (.Name m _)) nm [.Return (some e) _] _] [] [] _ => if isGl sc m && plainName m && memS m G.cls then match nm with
        | some nm => if isLocal sc nm && plainName nm then match ixF nm N 0 with
            | some j => match trSs G n N sc b, trX G n N sc (some (j, nm)) e with
              | some u, some f => some (sTry G.cls G.sub m (some j) u f)
              | _, _ => none
            | none => none
          else none
        | none => match trSs G n N sc b, trX G n N sc none e with
          | some u, some f => some (sTry G.cls G.sub m none u f)
          | _, _ => none
      else none
    | _ => none
def trSs (G : Gs) : Nat → List Str → Scope → List Stmt → Option WS
  | 0, _, _, _ => none
  | n + 1, N, sc, ss => match ss with
    | [] => some sSkip
    | s :: r => match r with
      | [] => (trS G n N sc s).map (ghosts N s G.frz)
      | s2 :: r2 => match trS G n N sc s, trSs G n N sc (s2 :: r2) with
        | some u, some v => some (sSeq (ghosts N s G.frz u) v)
        | _, _ => none
end
/-- a def's context -/
structure GoodS (G : Gs) (X : Cx) (W : WX) (N : List Str) (sc : Scope) (k : Nat) : Prop where
  good : Good G X W N sc (isLoc sc) k
  stk : X.stack = X.env :: X.outer
  frm : X.env.frame = some X.env.locals
  pas : PassesOwn (model X.prog X.w) X.A X.env X.xe
  kind : sc.kind = .function
  fnT : ∀ x, X.fn x = true
structure SndS (G : Gs) (n : Nat) : Prop where
  s : ∀ {X W N sc k s w}, GoodS G X W N sc k → trS G n N sc s = some w → IS X W s w
  ss : ∀ {X W N sc k s w}, GoodS G X W N sc k → trSs G n N sc s = some w → ISs X W s w
theorem loc_store {x : Str} {sc : Scope} {fn : Str → Bool} (hf : ∀ x, fn x = true) (h : isLoc sc x = true) : Loc sc x ∧ (fn x = true ∨ sc.names.lookup x = some .local) := ⟨loc_of h, .inl (hf x)⟩
theorem GoodS.tr {G : Gs} {X : Cx} {W W' : WX} {N : List Str} {sc : Scope} {k : Nat} (g : GoodS G X W N sc k) {pn : List (Addr × Obj)} {xe : Value → Shared → Prop} (tk : Takes (X.tr pn xe) W') (pa : PassesOwn (model X.prog X.w) X.A X.env xe) : GoodS G (X.tr pn xe) W' N sc k where
  good := { hN := g.good.hN, hsc := g.good.hsc, nd := g.good.nd, calm := g.good.calm, room := g.good.room, takes := tk, fns := g.good.fns, blt := g.good.blt, imp := g.good.imp, cst := g.good.cst, exc := g.good.exc, cls := ⟨g.good.cls.cls, g.good.cls.isa⟩, fld := g.good.fld, store := g.good.store }
  stk := g.stk
  frm := g.frm
  pas := pa
  kind := g.kind
  fnT := g.fnT
theorem ix_at {x : Str} {N : List Str} {i : Nat} (h : ixF x N 0 = some i) : N[i]? = some x := by
  obtain ⟨k, e, q⟩ := ixF_of h
  rw [Nat.zero_add] at e
  rw [e]
  exact q
theorem sole_of {t e : Expr} {l : Nat} {env : PySem.Env} (h : noComp e = true) : swapsWithSole [t] e l env = pure false := swap_of h
theorem all3 {p : Expr → Bool} {a b c : Expr} (h : [a, b, c].all p = true) : p a = true ∧ p b = true ∧ p c = true := by
  simp only [List.all_cons, List.all_nil, Bool.and_true, Bool.and_eq_true] at h
  exact h
theorem ne_of_dec {x y : Str} (h : (!decide (x = y)) = true) : x ≠ y := by simpa using h
section
variable {G : Gs} {X : Cx} {W : WX} {N : List Str} {sc : Scope} {k n : Nat}
theorem ne_ix {x y : Str} {i j : Nat} (hi : N[i]? = some x) (hj : N[j]? = some y) (h : x ≠ y) : i ≠ j := fun z => by
  subst z
  rw [hi] at hj
  cases hj
  exact h rfl
theorem sw_false {elt : Expr} {gs : List Comprehension} {scope : Scope} {pos py : Pos} {y : Str} {l : Nat} {env : PySem.Env} (hsc : env.scope = sc) (hk : sc.kind = .function) (h : lcSwap sc y py pos scope = false) : swapsWith (.ListComp elt gs scope pos) (some (.Name y py)) l env = pure false := by
  have hl : (env.kindOf y == some NameKind.local) = isLocal sc y := by
    show (env.scope.names.lookup y == some NameKind.local) = _
    rw [hsc]
    unfold isLocal
    cases e : sc.names.lookup y with
    | none => rfl
    | some k => cases k <;> rfl
  have hb : env.blockKind = .function := by unfold Env.blockKind; rw [hsc, hk]; rfl
  unfold lcSwap at h
  unfold swapsWith
  simp only [hb, hl, Expr.pos]
  have e1 : ∀ k : Bool, k = true → (k && isLocal sc y && py.line == pos.line && !(scope.names.any fun (n, k) => n == y && (k == .local || k == .cell))) = false := fun k hk => by
    rw [hk, Bool.true_and]
    exact h
  exact congrArg pure (e1 _ rfl)
theorem snd_asgG {t e : Expr} {pos : Pos} {w : WS} (g : GoodS G X W N sc k) (h : asgG G n N sc t e = some w) : IS X W (.Assign [t] e pos) w := by
  unfold asgG at h
  split at h
  · rename_i hc
    simp only [Bool.and_eq_true] at hc
    obtain ⟨⟨h1, h2⟩, h3⟩ := hc
    split at h
    · rename_i gt l w1 e1 e2
      cases h
      refine is_set ((snd G n).e g.good e2) ((snd G n).g g.good e1 (l := l) fun i hi => hi) (sole_of h1) (sw_none g.good.hsc h2) ?_
      cases t <;> first | rfl | cases h3
    · cases h
  · cases h
theorem snd_asg {t e : Expr} {pos : Pos} {w : WS} (g : GoodS G X W N sc k) (h : trAsg G n N sc t e = some w) : IS X W (.Assign [t] e pos) w := by
  unfold trAsg at h
  split at h
  · rename_i y py elt tg iter ifs scope p2
    split at h
    · rename_i hc
      unfold lcSwap at hc
      simp only [Bool.and_eq_true, Bool.not_eq_true'] at hc
      obtain ⟨⟨h1, h2⟩, h3⟩ := hc
      split at h
      · rename_i i w1 e1 e2
        cases h
        cases n with
        | zero => cases e2
        | succ n =>
          have e2' : (if blkC N sc scope (ownOf N scope.names) && noSet iter then
              match trI G n N sc (isLoc sc) tg iter, trG G n N (relS scope sc) (isLoc scope) tg, trIf G n N (relS scope sc) (isLoc scope) ifs, trE G n N (relS scope sc) (isLoc scope) elt with
              | some wi, some (g, l), some t, some w => if l.all (fun i => ((ownOf N scope.names).map (fun q : Str × Nat => q.2)).contains i) then some ((if memN (p2.line, p2.col + 1000000) G.muts then wLcN else wLc) wi g t w ((ownOf N scope.names).map (fun q : Str × Nat => q.2))) else none
              | _, _, _, _ => none
            else none) = some w1 := e2
          have ih := snd G n
          have gg := g.good
          split at e2'
          · rename_i hc
            rw [Bool.and_eq_true] at hc
            split at e2'
            · rename_i wi gt l t w2 f1 f2 f3 f4
              split at e2'
              · rename_i hl
                cases e2'
                have ok : BlkOk X.N X.env.scope scope (ownOf N scope.names) := by
                  rw [gg.hN, gg.hsc]
                  exact blkOk_by hc.1
                split
                · refine is_setLcN (own := ownOf N scope.names) gg.calm gg.ndX (by rw [gg.hN]; exact ix_at e1) (by rw [gg.hsc]; exact local_of h1) (sw_true (by rw [gg.hsc]; exact g.kind) (by rw [gg.hsc]; exact local_of h1) h2 h3) (ih.i gg f1) ok (fun s H C cl fp => ih.g (gg.blk scope s H C cl fp) f2 fun i hi => ?_) (fun s H C cl fp => ih.f (gg.blk scope s H C cl fp) f3) (fun s H C cl fp => ih.e (gg.blk scope s H C cl fp) f4) (set_iter hc.2)
                  exact List.contains_iff_mem.mp (List.all_eq_true.mp hl i hi)
                · refine is_setLc (own := ownOf N scope.names) gg.calm gg.ndX (by rw [gg.hN]; exact ix_at e1) (by rw [gg.hsc]; exact local_of h1) (sw_true (by rw [gg.hsc]; exact g.kind) (by rw [gg.hsc]; exact local_of h1) h2 h3) (ih.i gg f1) ok (fun s H C cl fp => ih.g (gg.blk scope s H C cl fp) f2 fun i hi => ?_) (fun s H C cl fp => ih.f (gg.blk scope s H C cl fp) f3) (fun s H C cl fp => ih.e (gg.blk scope s H C cl fp) f4) (set_iter hc.2)
                  exact List.contains_iff_mem.mp (List.all_eq_true.mp hl i hi)
              · cases e2'
            · cases e2'
          · cases e2'
      · cases h
    · rename_i hc
      have hc' : lcSwap sc y py p2 scope = false := by
        cases q : lcSwap sc y py p2 scope with
        | false => rfl
        | true => exact absurd q hc
      split at h
      · rename_i gt l w1 e1 e2
        cases h
        exact is_set ((snd G n).e g.good e2) ((snd G n).g g.good e1 (l := l) fun i hi => hi) (sw_false (l := pos.line) g.good.hsc g.kind hc') (sw_none g.good.hsc rfl) rfl
      · cases h
  · rename_i x px y py kt pt a b k2 pt2
    split at h
    · rename_i hc
      rw [Bool.and_eq_true] at hc
      split at h
      · rename_i i j w1 e1 e2 e3
        cases h
        have hne := ne_of_dec hc.2
        have hs := hc.1
        have q := hs
        unfold swOk at q
        simp only [Bool.and_eq_true, Bool.not_eq_true', List.all_cons, List.all_nil, Bool.and_true, List.head?_cons, Option.map_some, Option.getD_some] at q
        obtain ⟨⟨⟨⟨_, _⟩, ⟨hx, _⟩, hy, _⟩, _⟩, _⟩ := q
        have gg := g.good
        exact is_par2 gg.calm gg.ndX (by rw [gg.hN]; exact ix_at e1) (by rw [gg.hN]; exact ix_at e2) (ne_ix (ix_at e1) (ix_at e2) hne) (by rw [gg.hsc]; exact local_of hx) (by rw [gg.hsc]; exact local_of hy) ((snd G n).a gg e3) (sw_two gg.hsc (by rw [gg.hsc]; exact g.kind) hne hs) (sole_of rfl)
      · cases h
    · exact snd_asgG g h
  · rename_i x px y py z pz kt pt a b c k2 pt2
    split at h
    · rename_i hc
      simp only [Bool.and_eq_true] at hc
      obtain ⟨hs, ⟨c1, c2⟩, c3⟩ := hc
      split at h
      · rename_i i j l w1 e1 e2 e3 e4
        cases h
        have q := hs
        unfold swOk at q
        simp only [Bool.and_eq_true, Bool.not_eq_true', List.all_cons, List.all_nil, Bool.and_true, List.head?_cons, Option.map_some, Option.getD_some] at q
        obtain ⟨⟨⟨⟨_, _⟩, ⟨hx, _⟩, ⟨hy, _⟩, hz, _⟩, _⟩, _⟩ := q
        have gg := g.good
        have nxy := ne_of_dec c1
        have nxz := ne_of_dec c2
        have nyz := ne_of_dec c3
        exact is_par3 gg.calm gg.ndX (by rw [gg.hN]; exact ix_at e1) (by rw [gg.hN]; exact ix_at e2) (by rw [gg.hN]; exact ix_at e3) (ne_ix (ix_at e1) (ix_at e2) nxy) (ne_ix (ix_at e1) (ix_at e3) nxz) (ne_ix (ix_at e2) (ix_at e3) nyz) (by rw [gg.hsc]; exact local_of hx) (by rw [gg.hsc]; exact local_of hy) (by rw [gg.hsc]; exact local_of hz) ((snd G n).a gg e4) (sw_three gg.hsc (by rw [gg.hsc]; exact g.kind) nxy nxz nyz hs) (sole_of rfl)
      · cases h
    · exact snd_asgG g h
  · exact snd_asgG g h
theorem snds_s (ih : SndS G n) {s : Stmt} {w : WS} (g : GoodS G X W N sc k) (h : trS G (n + 1) N sc s = some w) : IS X W s w := by
  have sn := snd G n
  have gg := g.good
  unfold trS at h
  split at h
  · cases h; exact is_pass
  · cases h; exact is_break
  · cases h; exact is_cont
  · cases h; exact is_doc
  · split at h
    · rename_i hc
      obtain ⟨w', e1, rfl⟩ := map_some h
      exact is_expr (sn.e gg e1) (swap_of hc)
    · cases h
  · cases h; exact is_retN
  · obtain ⟨w', e1, rfl⟩ := map_some h
    exact is_ret (sn.e gg e1)
  · split at h
    · rename_i t u v e1 e2 e3
      cases h
      exact is_if (sn.t gg e1) (ih.ss g e2) (ih.ss g e3)
    · cases h
  · split at h
    · rename_i t u e1 e2
      cases h
      exact is_while g.pas (sn.t gg e1) (ih.ss g e2)
    · cases h
  · split at h
    · rename_i hs
      split at h
      · rename_i wi gt l u e1 e2 e3
        cases h
        exact is_for g.pas gg.calm (sn.i gg e1) (sn.g gg e2 (l := l) fun i hi => hi) (ih.ss g e3) (set_iter hs)
      · cases h
    · cases h
  · exact snd_asg g h
  · split at h
    · rename_i f ef
      split at h
      · rename_i hc
        simp only [Bool.and_eq_true] at hc
        obtain ⟨⟨c1, c2⟩, c3⟩ := hc
        obtain ⟨w', e1, rfl⟩ := map_some h
        obtain ⟨C, fI, T, O⟩ := gg.exc _ (findS_of ef)
        exact is_raise T O (by have := gg.room.room.dp; omega) gg.calm gg.takes (sn.a gg e1) (gg.gl c1) (plain_of c2).1 (star_cons c3)
      · cases h
    · cases h
  · rename_i b m np nm e p p2 p3
    split at h
    · rename_i hc
      simp only [Bool.and_eq_true] at hc
      obtain ⟨⟨c1, c2⟩, c3⟩ := hc
      split at h
      · rename_i nm
        split at h
        · rename_i hn
          rw [Bool.and_eq_true] at hn
          split at h
          · rename_i j ej
            split at h
            · rename_i u f e1 e2
              cases h
              have hl := local_of hn.1
              have hk : X.env.kindOf nm = some .local := by
                show X.env.scope.names.lookup nm = _
                rw [gg.hsc]; exact hl
              exact is_try_as gg.cls (memS_of c3) g.stk g.frm gg.ndX (by rw [gg.hN]; exact ix_at ej) hk (gg.gl c1) (plain_of c2).1 gg.takes (fun W' pn xe tk pa => ih.ss (g.tr tk pa) e1) ((sndx G n).x gg (i := some (j, nm)) ⟨by rw [gg.hN]; exact ix_at ej, .inl hk, hn.2⟩ e2)
            · cases h
          · cases h
        · cases h
      · split at h
        · rename_i u f e1 e2
          cases h
          exact is_try gg.cls (memS_of c3) g.stk g.frm (gg.gl c1) (plain_of c2).1 gg.takes (fun W' pn xe tk pa => ih.ss (g.tr tk pa) e1) ((sndx G n).x gg (i := none) trivial e2)
        · cases h
    · cases h
  · cases h
theorem snds_ss (ih : SndS G n) {s : List Stmt} {w : WS} (g : GoodS G X W N sc k) (h : trSs G (n + 1) N sc s = some w) : ISs X W s w := by
  cases s with
  | nil => cases h; exact is_nil
  | cons s r =>
    cases r with
    | nil =>
      obtain ⟨w', e1, rfl⟩ := map_some (show (trS G n N sc s).map (ghosts N s G.frz) = some w from h)
      exact is_one (is_ghosts (ih.s g e1) _)
    | cons s2 r2 =>
      have h' : (match trS G n N sc s, trSs G n N sc (s2 :: r2) with
        | some u, some v => some (sSeq (ghosts N s G.frz u) v)
        | _, _ => none) = some w := h
      split at h'
      · rename_i u v e1 e2
        cases h'
        exact is_cons (is_ghosts (ih.s g e1) _) (ih.ss g e2)
      · cases h'
end
theorem snds (G : Gs) : ∀ n : Nat, SndS G n
  | 0 => ⟨(fun _ h => by cases h), (fun _ h => by cases h)⟩
  | n + 1 => have ih := snds G n
    ⟨fun g h => snds_s ih g h, fun g h => snds_ss ih g h⟩
end PL
namespace PL
open PySem PySem.Spec L2
/-! ### a def, from its text -/
def startD (N : List Str) (ds : List D) : Env := ds.map some ++ List.replicate (N.length - ds.length) none
def shrP (P : PD) : PD := fun d S' => ∃ S0, Sub S0 S' ∧ P d S0
def shrX (X : PX) : PX := fun x S' => ∃ S0, Sub S0 S' ∧ X x S0
/-- the body's reading does what the contract says -/
def Does (c : Con) (u : WS) (N : List Str) (n : Nat) : Prop := ∀ ds S P X, c ds S P X → ds.length = n ∧ u { nx := fun _ S' => shrP P .non S', rt := shrP P } (fun x _ S' => shrX X x S') (startD N ds) S
theorem startD_rep {K : PySem.W.Frag} {H : Hp} {N : List Str} {vs : List V} {ds : List D} (r : RepL K H vs ds) : RepE K H (L2.start N vs) (startD N ds) := by
  have e := r.length
  refine ⟨by unfold L2.start startD; rw [List.length_append, List.length_append, List.length_map, List.length_map, e, List.length_replicate, List.length_replicate], fun i d h => ?_⟩
  unfold startD at h
  by_cases hi : i < ds.length
  · rw [List.getElem?_append_left (by rw [List.length_map]; exact hi), List.getElem?_map] at h
    cases e2 : ds[i]? with
    | none => rw [e2] at h; cases h
    | some d2 =>
      rw [e2] at h
      cases h
      obtain ⟨v, ev, rv⟩ := r.get e2
      refine ⟨v, ?_, rv⟩
      unfold L2.start
      rw [List.getElem?_append_left (by rw [List.length_map, e]; exact hi), List.getElem?_map, ev]
      rfl
  · rw [List.getElem?_append_right (by rw [List.length_map]; omega), List.getElem?_replicate] at h
    split at h <;> cases h
/-- the written part, and what is known of its defs -/
structure Tab (P : Program) (w : World) (K : PySem.W.Frag) (mg : Str → Option Value) (base : Heap) (G : Gs) (k : Nat) : Prop where
  fns : ∀ e ∈ G.fns, ∃ f fd, mg e.name = some (.ref f) ∧ PySem.W.keepIn K (.ref f) = true ∧ FnG P w K mg base k f fd e.ps e.con ∧ ∀ q ∈ e.pats, BindsK fd e.ps q.1 q.2
  blt : ∀ x ∈ G.blt, mg x = none
  imp : ∀ q ∈ G.imp, mg q.1 = some (.builtin q.2)
  cst : ∀ q ∈ G.cst, ∃ v u, mg q.1 = some u ∧ RelV v u ∧ ∀ H, Rep K H v q.2
  exc : ∀ q ∈ G.exc, ∃ C fI, PX.ExTxt P K mg q.1 q.2 C fI ∧ PX.FldOk q.2
  cls : ∀ n ∈ G.cls, ∃ C, mg n = some (.ref C) ∧ ExcC K C ∧ PySem.W.typeIn K (.ref C) = some (.type "type")
  isa : ∀ n ∈ G.cls, ∀ m ∈ G.cls, ∀ C D, mg n = some (.ref C) → mg m = some (.ref D) → PySem.W.subIn K (.ref C) (.ref D) = some (G.sub n m) ∧ PySem.W.kitOne K (.ref C) (.ref D) = some (G.sub n m)
  fld : ∀ f ∈ G.flds, ∀ n ∈ G.cls, ∀ C, mg n = some (.ref C) → PySem.W.findIn K (.ref C) f = some none
section
variable {P : Program} {w : World} {K : PySem.W.Frag} {mg : Str → Option Value} {base : Heap} {G : Gs} {k n : Nat} {N ps : List Str} {qual name : Str} {scope : Scope} {params : Arguments} {body : List Stmt} {f : Addr} {dV kV doc pm cdv ct oc : Value} {an od : Option Addr} {osl : Array (Option Value)}
theorem FnG.mono {j : Nat} {fd : FuncData} {c : Con} (F : FnG P w K mg base j f fd ps c) (h : j ≤ k) : FnG P w K mg base k f fd ps c := fun A outer s H args us vs Q E hr => F A outer s H args us vs Q E (hr.mono h)
theorem Tab.goodS (T : Tab P w K mg base G k) (S : FnScope N ps scope) {A : Around} {outer : List PySem.Env} {s : Shared} {H : Hp} {E : XK} (hr : RoomG k (A.deeper (PyProof.Rows.envOfC qual scope s.heap.objs.size f cdv))) :
    GoodS G (cxOf (L2.CX P w) P w K mg base N qual scope f cdv A outer s H E) (fun cls d _ H' => E cls d H') N scope k where
  good := { hN := rfl, hsc := rfl, nd := S.nd, calm := rfl, room := hr, takes := takes_of rfl rfl rfl rfl, fns := T.fns, blt := T.blt, imp := T.imp, cst := T.cst, exc := T.exc, cls := ⟨T.cls, T.isa⟩, fld := T.fld, store := fun x hx => loc_store (fun _ => rfl) hx }
  stk := rfl
  frm := rfl
  pas := passes_of rfl
  kind := S.kind
  fnT := fun _ => rfl
theorem fn_G {u : WS} {c : Con} (lk : K.lookup f = some ⟨oc, od, .func (PySem.W.fnOf name qual params body scope dV kV doc pm an cdv ct), osl⟩) (hcd : PySem.W.codeIn K cdv qual = true) (S : FnScope N ps scope) (T : Tab P w K mg base G k)
    (tr : trSs G n N scope body = some u) (im : Does c u N ps.length) : FnG P w K mg base (k + 1) f (PySem.W.fnOf name qual params body scope dV kV doc pm an cdv ct) ps c := by
  intro A outer s H args us vs Q E hg e0 hb r hl ⟨ds, S0, Pd, Xd, rl, rs, hc, hq, hx⟩
  have hr := hg.room
  have inK : K.In s.heap := e0.mod.kin.keeps fun b o e => (e0.bs b o e).1
  have nol : s.heap.NoLimit := e0.mod.nolimit.keeps fun b o e => (e0.bs b o e).1
  have kinds : ∀ y ∈ ps.zip us, scope.names.lookup y.1 = some .local ∨ (scope.names.lookup y.1 = some .cell ∧ ((cellsFrom (s.heap.objs.size + 1) scope.names []).lookup y.1).isSome = true) := fun ⟨m, v⟩ hy => by
    rcases S.par m (List.of_mem_zip hy).1 with q | q
    · exact .inl q
    · exact .inr ⟨q, PySem.W.cellsFrom_some _ _ _ (.inl q)⟩
  refine codeAny_call_function hr.depth (inK _ _ lk) rfl S.co S.gen rfl (PySem.W.codeRec_of inK hcd) (hb _ _ _ _ ?_)
  refine wpAny_newFunctionEnv_cells S.kind kinds fun env he s1 x => ?_
  subst he
  refine ⟨nol.keeps x.toInCall.keep, codeAny_func ?_⟩
  obtain ⟨_, hu⟩ := im ds S0 Pd Xd hc
  have I : Inv (cxOf (L2.CX P w) P w K mg base N qual scope f cdv A outer s H E) [] (L2.start N vs) H s1 := inv_start S hr.hd e0 hl r x
  have hgd : RoomG k (A.deeper (PyProof.Rows.envOfC qual scope s.heap.objs.size f cdv)) := ⟨hr.deeper _, hg.gd⟩
  have go := (snds G n).ss (T.goodS (qual := qual) (f := f) (cdv := cdv) (outer := outer) (H := H) (E := E) S hgd) tr
  refine wpAny_mono (go.run [] s1 (L2.start N vs) H { nx := fun _ H' => Q .non H', rt := Q } I ⟨startD N ds, S0, _, _, startD_rep rl, rs, hu, ⟨fun env S' σ H' ⟨S2, sb, p⟩ e1 _ s1 => hq .non S2 _ H' p e1 .non (s1.sub sb), fun d S' v H' ⟨S2, sb, p⟩ e1 r1 s1 => hq d S2 v H' p e1 r1 (s1.sub sb), fun _ _ _ _ z => z.elim, fun _ _ _ _ z => z.elim⟩, fun x env S' cls dd σ H' ⟨S2, sb, p⟩ e1 _ rx s1 => hx x S2 cls dd H' p e1 rx (s1.sub sb)⟩) (fun fl s' hs => ?_) fun e s' hs => hs
  cases fl with
  | ret u =>
    obtain ⟨v, σ', H', J, rv, q⟩ := hs
    exact ⟨v, H', J.os, J.bare, J.base, J.hok, rv, q⟩
  | next =>
    obtain ⟨σ', H', J, q⟩ := hs
    exact ⟨V.non, H', J.os, J.bare, J.base, J.hok, rfl, q⟩
  | brk =>
    obtain ⟨_, _, _, q⟩ := hs
    exact False.elim q
  | cont =>
    obtain ⟨_, _, _, q⟩ := hs
    exact False.elim q
end
end PL
namespace PL
open PySem PySem.Spec L2 PyProof.Rows
/-! ### the end of a law -/
abbrev D0 (ns : List Int) : D := PL.D.lst (ns.map PL.D.int)
theorem ints_rep {K : PySem.W.Frag} {H : Hp} : ∀ ns : List Int, RepL K H (ns.map V.int) (ns.map PL.D.int)
  | [] => .nil
  | n :: r => .cons (.int n) (ints_rep r)
theorem script_rep {K : PySem.W.Frag} {H : Hp} {a : Addr} {ns : List Int} (hO : Only H) (h : SqL K H a (ns.map V.int)) : Rep K H (.ref a) (D0 ns) := by
  refine .lst ?_ (ints_rep ns)
  rcases h with (h | h) | h
  · rcases hO a with z | ⟨o, xs, z⟩
    · rw [h] at z; cases z
    · rw [h] at z; cases z
  · exact .inl h
  · exact .inr h
/-- the contract that a law's def is to hold -/
def LawC : Con := fun ds S P _ => ∃ ns : List Int, ns.length ≤ 63 ∧ (∀ z ∈ ns, Builtin.Int.intBits z ≤ 1048576) ∧ ds = [D0 ns] ∧ (∀ a, S a = none) ∧ ∀ S', P (.bl true) S'
theorem law_end {P : Program} {w : World} {K : PySem.W.Frag} {mg mb : Str → Option Value} {k : Nat} {fa a : Addr} {fd : FuncData} {x : Str} {s₁ : Shared} {vs : List Value} {ns : List Int}
    (KX : K.In s₁.heap) (hns : s₁.heap.Ns mainGlobals mg) (hb : s₁.heap.Ns builtinsNs mb) (hbb : ∀ x : Str, x ≠ "__name__" → mb x = bootBuiltins x) (hlim : s₁.heap.NoLimit) (hg : s₁.gens = #[])
    (ha : s₁.heap.get? a = some { cls := .type "list", data := .seq vs.toArray }) (hi : IntsAre vs ns) (hl : ns.length ≤ 63) (hbits : ∀ z ∈ ns, Builtin.Int.intBits z ≤ 1048576) (hr : RoomG k callerA)
    (F : ∀ base : Heap, K.In base → base.Ns mainGlobals mg → FnG P w K mg base k fa fd [x] LawC) (hbind : ∀ (s : Shared) (u : Value), BindsTo s fd ⟨[u], []⟩ [(x, u)]) :
    codeAny (model P w) callerA (.call (.ref fa) ⟨[.ref a], []⟩) (fun r s' => r = .ok (.ret (.bool true)) ∧ OldK s₁.heap s'.heap ∧ s'.os = s₁.os ∧ AllBare s'.gens) s₁ := by
  have rv := vals_ints hi
  have lenV := hi.length
  have hl' : ns.length ≤ sizeLine := by rw [sizeLine_eq]; omega
  have main : ∀ H : Hp, Only H → SqL K H a (ns.map V.int) → HOk P w H s₁.heap → (∀ b, H b ≠ none → b = a) → (H a ≠ none → K.lookup a = none) →
      codeAny (model P w) callerA (.call (.ref fa) ⟨[.ref a], []⟩) (fun r s' => r = .ok (.ret (.bool true)) ∧ OldK s₁.heap s'.heap ∧ s'.os = s₁.os ∧ AllBare s'.gens) s₁ := by
    intro H only sq hok one free
    have under : ∀ {b : Addr} {o : Obj}, s₁.heap.get? b = some o → H b = none → (hidT s₁.heap H).get? b = some o := fun e n => hidT_get e n
    have dictN : ∀ {b : Addr} {o : Obj} {es : Array DictEntry} {ep : Nat}, s₁.heap.get? b = some o → o.data = .dict es ep → H b = none := fun {b o es ep} e d => by
      cases q : H b with
      | none => rfl
      | some u =>
        have eb : b = a := one b (by rw [q]; simp)
        rw [eb, ha] at e
        cases e
        cases (show Data.seq vs.toArray _ = Data.dict es ep from d)
    have nsU : ∀ {b : Addr} {m : Str → Option Value}, s₁.heap.Ns b m → (hidT s₁.heap H).Ns b m := fun {b m} ⟨o, es, ep, e, d, r⟩ => ⟨o, es, ep, under e (dictN e d), d, r⟩
    have inU : K.In (hidT s₁.heap H) := fun b o e => under (KX b o e) (by
      cases q : H b with
      | none => rfl
      | some u =>
        have eb : b = a := one b (by rw [q]; simp)
        rw [eb, free (by rw [← eb, q]; simp)] at e
        cases e)
    have hM : Mod K mg (hidT s₁.heap H) := ⟨inU, nsU hns, ⟨mb, nsU hb, hbb⟩, let ⟨mc, h1, h2⟩ := hlim; ⟨mc, nsU h1, h2⟩⟩
    have env : Env0 P w K mg (hidT s₁.heap H) callerA [] s₁ H := ⟨rfl, hM, fun b o e => of_hidT e, Nat.le_of_eq (hidT_size _ _), trivial, fun b hb => absurd (show b ∈ ([] : List Addr) from hb) (by simp), hok, .of_eq hg⟩
    have want : spI K mg LawC [.ref a] H (fun v _ => v = .bl true) (fun _ _ _ => False) :=
      ⟨[D0 ns], fun _ => none, fun d _ => d = .bl true, fun _ _ => False, .cons (script_rep only sq) .nil, (fun _ _ z => by cases z), ⟨ns, hl, hbits, rfl, fun _ => rfl, fun _ => rfl⟩, fun d S v H' p _ r _ => by rw [p] at r; cases r; rfl, fun _ _ _ _ _ z => z.elim⟩
    refine codeAny_mono (F _ inU (nsU hns) callerA [] s₁ H ⟨[.ref a], []⟩ [.ref a] [.ref a] _ _ hr env (hbind s₁ (.ref a)) (.cons rfl .nil) rfl want) fun r s' h => ?_
    cases r with
    | error e =>
      obtain ⟨_, _, _, _, _, _, _, _, _, _, _, _, z⟩ := h
      exact z.elim
    | ok fl =>
      cases fl with
      | ret u =>
        obtain ⟨v, H', os, bare, un, hok', r', q⟩ := h
        have q' : v = .bl true := q
        subst q'
        obtain rfl : u = Value.bool true := r'
        refine ⟨rfl, OldK.of_keep fun b o e => ?_, os, bare⟩
        cases q : H b with
        | none => exact un.keep b o e q (by intro z; exact absurd (show b ∈ ([] : List Addr) from z) (by simp)) (by simp)
        | some u =>
          rcases only b with z | ⟨ob, xs, z⟩
          · rw [q] at z; cases z
          · obtain ⟨e1, _⟩ := hok b _ z
            obtain ⟨e2, _⟩ := hok' b _ (un.frzs b ob _ z)
            rw [e] at e1
            cases e1
            exact e2
      | next => exact False.elim h
      | brk => exact False.elim h
      | cont => exact False.elim h
  cases hk : K.lookup a with
  | some o =>
    have e := KX a o hk
    rw [ha] at e
    cases e
    exact main (fun _ => none) (fun _ => .inl rfl) (.inr ⟨_, vs.toArray, _, hk, rfl, rfl, rfl, by rw [List.size_toArray, lenV]; exact hl', by simpa using rv⟩) (fun b u z => by cases (show (none : Option HO) = some u from z)) (fun b z => absurd rfl z) fun z => absurd rfl z
  | none =>
    have at_a : ∀ {o : HO}, (fun b => if b = a then some o else none : Hp) a = some o := fun {o} => if_pos rfl
    have off_a : ∀ {o : HO} {b : Addr}, b ≠ a → (fun b => if b = a then some o else none : Hp) b = none := fun {o b} h => if_neg h
    refine main (fun b => if b = a then some (.frz { cls := .type "list", data := .seq vs.toArray } (.lst (ns.map V.int))) else none) (fun b => ?_) (.inl (.inr ⟨{ cls := .type "list", data := .seq vs.toArray }, at_a⟩)) (fun b u z => ?_) (fun b z => ?_) fun _ => hk
    · by_cases hb : b = a
      · exact .inr ⟨_, _, if_pos hb⟩
      · exact .inl (off_a hb)
    · by_cases hb : b = a
      · rw [hb] at z ⊢
        have z' := at_a.symm.trans z
        cases z'
        exact ⟨ha, by rw [List.length_map]; exact hl', vs, _, rv, ha⟩
      · have z' := (off_a hb).symm.trans z
        cases z'
    · by_cases hb : b = a
      · exact hb
      · exact absurd (off_a hb) z
/-- the goal that the head leaves -/
theorem walk_G {l : PySem.W.OpenLaw} {k : Nat} {q : Program} {loose : List Str} {XP : (Str → Option Value) → Heap → Prop} {YP : World → Heap → Prop} {d : DefRec} {K : Params → PySem.W.Frag} {x : Str}
    (hn : l.most = some 63) (hdf : d.params.defaults = []) (hr : RoomG k callerA) (hY : ∀ (w : World) (h : Heap), YP w h → (K w.params).In h)
    (F : ∀ (w : World) (mg : Str → Option Value) (fa : Addr) (h : Heap), (K w.params).In h → h.Ns mainGlobals mg → mg d.name = some (.ref fa) →
      ∃ fd : FuncData, (∀ (s : Shared) (u : Value), BindsTo s fd ⟨[u], []⟩ [(x, u)]) ∧
        ∀ base : Heap, (K w.params).In base → base.Ns mainGlobals mg → FnG l.prog w (K w.params) mg base k fa fd [x] LawC) :
    PySem.W.WalkO q loose XP YP l.row.toRowW d [] (fun f vs => PySem.call f vs) := by
  refine Att.attach_callB hn hdf fun w s₀ s₁ mg mb fa o pm cd doc a vs ns G Y ho hd hcd hmg hobj hints hlen hbits hg => ?_
  obtain ⟨fd, hb, hF⟩ := F w mg fa _ (hY w _ Y) G.T.g hmg
  exact law_end (hY w _ Y) G.T.g G.T.b G.T.builtins G.T.nolimit hg hobj hints hlen hbits hr hF hb
end PL
namespace PL
open PySem PySem.Spec L2
/-! ### the written part, def by def -/
theorem all_nil {α : Type} {p : α → Prop} : ∀ e ∈ ([] : List α), p e := fun _ h => by cases h
theorem all_cons {α : Type} {p : α → Prop} {a : α} {l : List α} (h : p a) (r : ∀ e ∈ l, p e) : ∀ e ∈ a :: l, p e := fun e he => by
  rcases List.mem_cons.mp he with rfl | he
  · exact h
  · exact r e he
structure DefF (K : PySem.W.Frag) (x : Str) (st : Stmt) (f : Addr) (fd : FuncData) : Prop where
  a : PySem.W.nsIn K mainGlobals x = some (some (.ref f))
  ex : ∃ (oc : Value) (od : Option Addr) (doc pm : Value) (an : Option Addr) (cd ct : Value) (osl : Array (Option Value)), fd = PySem.W.fnOf x x (defArgs st) (defBody st) (defScope st) .none .none doc pm an cd ct ∧ K.lookup f = some ⟨oc, od, .func fd, osl⟩ ∧ PySem.W.codeIn K cd x = true
  kp : PySem.W.keepIn K (.ref f) = true
def DefE (K : PySem.W.Frag) (x : Str) (st : Stmt) : Prop := ∃ f fd, DefF K x st f fd
theorem defE {K : PySem.W.Frag} {x : Str} {st : Stmt} {f : Addr} {oc : Value} {od : Option Addr} {doc pm : Value} {an : Option Addr} {cd ct : Value} {osl : Array (Option Value)} (a : PySem.W.nsIn K mainGlobals x = some (some (.ref f)))
    (l : K.lookup f = some ⟨oc, od, .func (PySem.W.fnOf x x (defArgs st) (defBody st) (defScope st) .none .none doc pm an cd ct), osl⟩) (c : PySem.W.codeIn K cd x = true) (k : PySem.W.keepIn K (.ref f) = true) : DefE K x st :=
  ⟨f, _, a, ⟨oc, od, doc, pm, an, cd, ct, osl, rfl, l, c⟩, k⟩
def FnE (P : Program) (w : World) (K : PySem.W.Frag) (mg : Str → Option Value) (base : Heap) (k : Nat) (e : FE) : Prop := ∃ f fd, mg e.name = some (.ref f) ∧ PySem.W.keepIn K (.ref f) = true ∧ FnG P w K mg base k f fd e.ps e.con ∧ ∀ q ∈ e.pats, BindsK fd e.ps q.1 q.2
section
variable {P : Program} {w : World} {K : PySem.W.Frag} {mg : Str → Option Value} {base h : Heap} {G : Gs} {j k n : Nat} {N ps : List Str} {x : Str} {st : Stmt} {f : Addr} {fd : FuncData} {u : WS} {c : Con}
theorem DefF.fnG (F : DefF K x st f fd) (S : FnScope N ps (defScope st)) (T : Tab P w K mg base G k) (tr : trSs G n N (defScope st) (defBody st) = some u) (im : Does c u N ps.length) : FnG P w K mg base (k + 1) f fd ps c := by
  obtain ⟨oc, od, doc, pm, an, cd, ct, osl, rfl, lk, hcd⟩ := F.ex
  exact fn_G lk hcd S T tr im
theorem DefF.binds {ks : List Str} (F : DefF K x st f fd) (h : ∀ (doc pm : Value) (an : Option Addr) (cd ct : Value), BindsK (PySem.W.fnOf x x (defArgs st) (defBody st) (defScope st) .none .none doc pm an cd ct) ps n ks) : BindsK fd ps n ks := by
  obtain ⟨oc, od, doc, pm, an, cd, ct, osl, rfl, lk, hcd⟩ := F.ex
  exact h doc pm an cd ct
theorem DefF.gl (F : DefF K x st f fd) (X : K.In h) (G : h.Ns mainGlobals mg) : mg x = some (.ref f) := PySem.W.mg_of X G F.a
theorem DefF.entry {pats : List (Nat × List Str)} (F : DefF K x st f fd) (X : K.In h) (Gl : h.Ns mainGlobals mg) (hk : j ≤ k) (FG : FnG P w K mg base j f fd ps c) (hp : ∀ q ∈ pats, BindsK fd ps q.1 q.2) : FnE P w K mg base k ⟨x, ps, c, pats⟩ :=
  ⟨f, fd, F.gl X Gl, F.kp, FG.mono hk, hp⟩
theorem tab (fns : ∀ e ∈ G.fns, FnE P w K mg base k e) (blt : ∀ x ∈ G.blt, mg x = none) (imp : ∀ q ∈ G.imp, mg q.1 = some (.builtin q.2)) (cst : ∀ q ∈ G.cst, ∃ v u, mg q.1 = some u ∧ RelV v u ∧ ∀ H, Rep K H v q.2)
    (exc : ∀ q ∈ G.exc, ∃ C fI, PX.ExTxt P K mg q.1 q.2 C fI ∧ PX.FldOk q.2) (cls : ∀ n ∈ G.cls, ∃ C, mg n = some (.ref C) ∧ ExcC K C ∧ PySem.W.typeIn K (.ref C) = some (.type "type"))
    (isa : ∀ n ∈ G.cls, ∀ m ∈ G.cls, ∀ C D, mg n = some (.ref C) → mg m = some (.ref D) → PySem.W.subIn K (.ref C) (.ref D) = some (G.sub n m) ∧ PySem.W.kitOne K (.ref C) (.ref D) = some (G.sub n m))
    (fld : ∀ f ∈ G.flds, ∀ n ∈ G.cls, ∀ C, mg n = some (.ref C) → PySem.W.findIn K (.ref C) f = some none) : Tab P w K mg base G k := ⟨fns, blt, imp, cst, exc, cls, isa, fld⟩
theorem isaF {n m : Str} {b : Bool} {C0 D0 : Addr} (hn : mg n = some (.ref C0)) (hm : mg m = some (.ref D0)) (s : PySem.W.subIn K (.ref C0) (.ref D0) = some b) (t : PySem.W.kitOne K (.ref C0) (.ref D0) = some b) :
    ∀ C D, mg n = some (.ref C) → mg m = some (.ref D) → PySem.W.subIn K (.ref C) (.ref D) = some b ∧ PySem.W.kitOne K (.ref C) (.ref D) = some b := fun C D h1 h2 => by
  rw [hn] at h1; rw [hm] at h2
  cases h1; cases h2
  exact ⟨s, t⟩
theorem fldF {n g : Str} {C0 : Addr} (hn : mg n = some (.ref C0)) (e : PySem.W.findIn K (.ref C0) g = some none) : ∀ C, mg n = some (.ref C) → PySem.W.findIn K (.ref C) g = some none := fun C h1 => by
  rw [hn] at h1
  cases h1
  exact e
end
/-! constants of the module: pairs of ints, ints, texts -/
def CstP (K : PySem.W.Frag) (x : Str) (d : D) : Prop := ∃ (a : Addr) (o : Obj) (its : Array Value) (n : Nat) (xs : List V) (ds : List D), PySem.W.nsIn K mainGlobals x = some (some (.ref a)) ∧ K.lookup a = some o ∧ o.cls = .type "tuple" ∧ o.data = .seq its n ∧ its.size ≤ sizeLine ∧ Vals xs its.toList ∧ d = .tup ds ∧ ∀ H, RepL K H xs ds
def CstT (K : PySem.W.Frag) (x : Str) (d : D) : Prop := CstP K x d ∨ (∃ i t, PySem.W.nsIn K mainGlobals x = some (some (.int i t)) ∧ d = .int i) ∨ (∃ z t, PySem.W.nsIn K mainGlobals x = some (some (.str z t)) ∧ d = .str z)
theorem CstT.get {K : PySem.W.Frag} {mg : Str → Option Value} {h : Heap} {x : Str} {d : D} (c : CstT K x d) (X : K.In h) (G : h.Ns mainGlobals mg) : ∃ v u, mg x = some u ∧ RelV v u ∧ ∀ H, Rep K H v d := by
  rcases c with ⟨a, o, its, n, xs, ds, e1, e2, e3, e4, e5, e6, rfl, r⟩ | ⟨i, t, e, rfl⟩ | ⟨z, t, e, rfl⟩
  · exact ⟨.ref a, .ref a, PySem.W.mg_of X G e1, rfl, fun H => .tup (.inr ⟨o, its, n, e2, e3, e4, e5, e6⟩) (r H)⟩
  · exact ⟨.int i, .int i t, PySem.W.mg_of X G e, ⟨t, rfl⟩, fun H => .int i⟩
  · exact ⟨.str z, .str z t, PySem.W.mg_of X G e, ⟨t, rfl⟩, fun H => .str z⟩
theorem cst_ii {K : PySem.W.Frag} {x : Str} {a : Addr} {i j : Int} {t u : Tok} {n : Nat} {dd : Option Addr} {sl : Array (Option Value)} (h1 : PySem.W.nsIn K mainGlobals x = some (some (.ref a))) (h2 : K.lookup a = some ⟨.type "tuple", dd, .seq #[.int i t, .int j u] n, sl⟩) : CstT K x (.tup [.int i, .int j]) :=
  .inl ⟨a, _, _, n, [.int i, .int j], [.int i, .int j], h1, h2, rfl, rfl, (show 2 ≤ sizeLine by rw [sizeLine_eq]; decide), .cons ⟨_, rfl⟩ (.cons ⟨_, rfl⟩ .nil), rfl, fun H => .cons (.int _) (.cons (.int _) .nil)⟩
theorem cst_i {K : PySem.W.Frag} {x : Str} {i : Int} {t : Tok} (h : PySem.W.nsIn K mainGlobals x = some (some (.int i t))) : CstT K x (.int i) := .inr (.inl ⟨i, t, h, rfl⟩)
theorem cst_s {K : PySem.W.Frag} {x z : Str} {t : Tok} (h : PySem.W.nsIn K mainGlobals x = some (some (.str z t))) : CstT K x (.str z) := .inr (.inr ⟨z, t, h, rfl⟩)
end PL
namespace PL
open PySem PySem.Spec L2
/-! ### sizes -/
/-- less than n bits -/
def Bd (n : Nat) (i : Int) : Prop := i.natAbs < 2 ^ n
theorem Bd.mono {m n : Nat} {i : Int} (h : Bd m i) (l : m ≤ n) : Bd n i := Nat.lt_of_lt_of_le h (Nat.pow_le_pow_right (by decide) l)
theorem Bd.mul {m n : Nat} {i j : Int} (h : Bd m i) (g : Bd n j) : Bd (m + n) (i * j) := by
  unfold Bd at *
  rw [Int.natAbs_mul, Nat.pow_add]
  exact Nat.mul_lt_mul'' h g
theorem pow_dbl (n : Nat) : (2 : Nat) ^ (n + 1) = 2 ^ n + 2 ^ n := by rw [Nat.pow_succ]; omega
theorem Bd.add {n : Nat} {i j : Int} (h : Bd n i) (g : Bd n j) : Bd (n + 1) (i + j) := by
  unfold Bd at *
  rw [pow_dbl]
  have := Int.natAbs_add_le i j
  omega
theorem Bd.sub {n : Nat} {i j : Int} (h : Bd n i) (g : Bd n j) : Bd (n + 1) (i - j) := by
  unfold Bd at *
  rw [pow_dbl]
  have := Int.natAbs_sub_le i j
  omega
theorem Bd.neg {n : Nat} {i : Int} (h : Bd n i) : Bd n (-i) := by unfold Bd at *; rw [Int.natAbs_neg]; exact h
theorem Bd.le {n : Nat} {i j : Int} (h : Bd n i) (g : j.natAbs ≤ i.natAbs) : Bd n j := Nat.lt_of_le_of_lt g h
theorem Bd.log {n : Nat} {i : Int} (h : Bd n i) : i.natAbs.log2 ≤ n := by
  by_cases z : i.natAbs = 0
  · rw [z]; simp
  · exact Nat.le_of_lt ((Nat.log2_lt z).mpr h)
theorem Bd.cmul {m n : Nat} {i j : Int} (h : Bd m i) (g : Bd n j) (l : m + n < 1000000) : CMulW i j := by
  unfold CMulW
  have := h.log
  have := g.log
  omega
theorem Bd.cdiv {n : Nat} {i j : Int} (h : Bd n j) (p : 0 < j) (l : n < 9000) : CDivW i j := ⟨p, by have := h.log; omega⟩
/-! ### fractions -/
def DQ (q : Rat) : D := .tup [.int q.num, .int (q.den : Int)]
/-- less than n bits, above and below -/
def Sz (n : Nat) (q : Rat) : Prop := Bd n q.num ∧ Bd n (q.den : Int)
theorem Sz.mono {m n : Nat} {q : Rat} (h : Sz m q) (l : m ≤ n) : Sz n q := ⟨h.1.mono l, h.2.mono l⟩
theorem natAbs_ediv_le' (a : Int) (b : Nat) : (a / (b : Int)).natAbs ≤ a.natAbs := Int.natAbs_ediv_le_natAbs a b
theorem Sz.divInt {n : Nat} {t b : Int} (h : Bd n t) (g : Bd n b) (nz : b ≠ 0) : Sz n (Rat.divInt t b) := by
  refine ⟨?_, ?_⟩
  · rw [Rat.num_divInt]
    refine h.le (Nat.le_trans (natAbs_ediv_le' _ _) ?_)
    rw [Int.natAbs_mul]
    have : b.sign.natAbs ≤ 1 := by rw [Int.natAbs_sign]; split <;> decide
    have := Nat.mul_le_mul_right t.natAbs this
    omega
  · rw [Rat.den_divInt, if_neg nz]
    refine g.le ?_
    exact Nat.div_le_self _ _
theorem den_ne (q : Rat) : (q.den : Int) ≠ 0 := Int.ofNat_ne_zero.mpr q.den_nz
theorem den_pos (q : Rat) : (0 : Int) < q.den := Int.ofNat_lt.mpr (Nat.pos_of_ne_zero q.den_nz)
theorem self_div (q : Rat) : Rat.divInt q.num q.den = q := Rat.num_divInt_den q
theorem q_add (p q : Rat) : p + q = Rat.divInt (p.num * q.den + q.num * p.den) (p.den * q.den) := by
  conv => lhs; rw [← self_div p, ← self_div q]
  exact Rat.divInt_add_divInt _ _ (den_ne p) (den_ne q)
theorem q_neg (p : Rat) : -p = Rat.divInt (-p.num) p.den := by
  conv => lhs; rw [← self_div p]
  exact Rat.neg_divInt _ _
theorem q_sub (p q : Rat) : p - q = Rat.divInt (p.num * q.den - q.num * p.den) (p.den * q.den) := by
  rw [Rat.sub_eq_add_neg, q_neg]
  conv => lhs; rw [← self_div p]
  rw [Rat.divInt_add_divInt _ _ (den_ne p) (den_ne q), Int.neg_mul, ← Int.sub_eq_add_neg]
theorem q_mul (p q : Rat) : p * q = Rat.divInt (p.num * q.num) (p.den * q.den) := by
  conv => lhs; rw [← self_div p, ← self_div q]
  exact Rat.divInt_mul_divInt _ _
theorem q_div (p q : Rat) : p / q = Rat.divInt (p.num * q.den) (p.den * q.num) := by
  rw [Rat.div_def]
  conv => lhs; rw [← self_div p, ← self_div q]
  rw [Rat.inv_divInt]
  exact Rat.divInt_mul_divInt _ _
theorem Sz.add {m n : Nat} {p q : Rat} (h : Sz m p) (g : Sz n q) : Sz (m + n + 1) (p + q) := by
  rw [q_add]
  exact Sz.divInt ((h.1.mul g.2).add ((g.1.mul h.2).mono (by omega))) ((h.2.mul g.2).mono (by omega)) (Int.mul_ne_zero (den_ne p) (den_ne q))
theorem Sz.sub {m n : Nat} {p q : Rat} (h : Sz m p) (g : Sz n q) : Sz (m + n + 1) (p - q) := by
  rw [q_sub]
  exact Sz.divInt ((h.1.mul g.2).sub ((g.1.mul h.2).mono (by omega))) ((h.2.mul g.2).mono (by omega)) (Int.mul_ne_zero (den_ne p) (den_ne q))
theorem Sz.mul {m n : Nat} {p q : Rat} (h : Sz m p) (g : Sz n q) : Sz (m + n) (p * q) := by
  rw [q_mul]
  exact Sz.divInt (h.1.mul g.1) (h.2.mul g.2) (Int.mul_ne_zero (den_ne p) (den_ne q))
theorem num_ne {q : Rat} (h : q ≠ 0) : q.num ≠ 0 := fun z => h (Rat.num_eq_zero.mp z)
theorem Sz.div {m n : Nat} {p q : Rat} (h : Sz m p) (g : Sz n q) (z : q ≠ 0) : Sz (m + n) (p / q) := by
  rw [q_div]
  exact Sz.divInt (h.1.mul g.2) (h.2.mul g.1) (Int.mul_ne_zero (den_ne p) (num_ne z))
theorem Sz.neg {m : Nat} {p : Rat} (h : Sz m p) : Sz m (-p) := ⟨by rw [Rat.neg_num]; exact h.1.neg, by rw [Rat.neg_den]; exact h.2⟩
/-! levels: each sum trebles -/
def Lv (k : Nat) (q : Rat) : Prop := Sz (75 * 3 ^ k) q
theorem lv_up (k : Nat) : 75 * 3 ^ k + 75 * 3 ^ k + 1 ≤ 75 * 3 ^ (k + 1) := by
  rw [Nat.pow_succ]
  have : 0 < 3 ^ k := Nat.pow_pos (by decide)
  omega
theorem Lv.up {k : Nat} {q : Rat} (h : Lv k q) : Lv (k + 1) q := h.mono (Nat.le_trans (by omega) (lv_up k))
theorem Lv.add {k : Nat} {p q : Rat} (h : Lv k p) (g : Lv k q) : Lv (k + 1) (p + q) := (Sz.add h g).mono (lv_up k)
theorem Lv.sub {k : Nat} {p q : Rat} (h : Lv k p) (g : Lv k q) : Lv (k + 1) (p - q) := (Sz.sub h g).mono (lv_up k)
theorem Lv.mul {k : Nat} {p q : Rat} (h : Lv k p) (g : Lv k q) : Lv (k + 1) (p * q) := (Sz.mul h g).mono (Nat.le_trans (by omega) (lv_up k))
theorem Lv.div {k : Nat} {p q : Rat} (h : Lv k p) (g : Lv k q) (z : q ≠ 0) : Lv (k + 1) (p / q) := (Sz.div h g z).mono (Nat.le_trans (by omega) (lv_up k))
theorem Lv.neg {k : Nat} {q : Rat} (h : Lv k q) : Lv k (-q) := Sz.neg h
theorem Lv.mono {k j : Nat} {q : Rat} (h : Lv k q) (l : k ≤ j) : Lv j q := Sz.mono h (Nat.mul_le_mul_left 75 (Nat.pow_le_pow_right (by decide) l))
/-! ### equal and the same text -/
theorem okD_DQ (q : Rat) : okD (DQ q) = true := by
  simp [okD, DQ, noref, norefL, SeqAt.shaped, toP, toPL, PyData.canLay0, PyData.canLayAll0, PyData.depth, PyData.depthAll]
theorem eqD_DQ (p q : Rat) : eqD (DQ p) (DQ q) = decide (p = q) := by
  have e : (p = q) ↔ (p.num = q.num ∧ p.den = q.den) := ⟨fun h => by rw [h]; exact ⟨rfl, rfl⟩, fun h => Rat.ext h.1 h.2⟩
  simp only [eqD, DQ, toP, toPL, PyData.eqv, PyData.eqvAll, Bool.and_true]
  rw [Bool.eq_iff_iff, Bool.and_eq_true, beq_iff_eq, beq_iff_eq, decide_eq_true_eq, e, Int.ofNat_inj]
theorem res_DQ (S : Sto) (q : Rat) : res S (DQ q) = DQ q := rfl
theorem res_tup (S : Sto) (ds : List D) : res S (.tup ds) = .tup ds := rfl
theorem res_lst (S : Sto) (ds : List D) : res S (.lst ds) = .lst ds := rfl
theorem res_int (S : Sto) (i : Int) : res S (.int i) = .int i := rfl
theorem res_str (S : Sto) (x : Str) : res S (.str x) = .str x := rfl
theorem res_bl (S : Sto) (x : Bool) : res S (.bl x) = .bl x := rfl
theorem res_non (S : Sto) : res S .non = .non := rfl
theorem okD_int (i : Int) : okD (.int i) = true := rfl
theorem okD_bl (i : Bool) : okD (.bl i) = true := rfl
theorem okD_non : okD .non = true := rfl
theorem eqD_int (i j : Int) : eqD (.int i) (.int j) = decide (i = j) := by
  simp only [eqD, toP, PyData.eqv]
  rw [Bool.eq_iff_iff, beq_iff_eq, decide_eq_true_eq]
theorem eqD_refl_DQ (p : Rat) : eqD (DQ p) (DQ p) = true := by rw [eqD_DQ]; exact decide_eq_true rfl
end PL
namespace PL
open PySem PySem.Spec L2
/-! ### readings, step by step -/
section
variable {a b c d e f g h i j : Option D} {r : List (Option D)} {x y z : D} {S : Sto} {P : PD} {X : PX} {R : Env → Sto → Prop}
theorem v0 : wVar 0 (some x :: r) S P X = P x S := id rfl
theorem v1 : wVar 1 (a :: some x :: r) S P X = P x S := id rfl
theorem v2 : wVar 2 (a :: b :: some x :: r) S P X = P x S := id rfl
theorem v3 : wVar 3 (a :: b :: c :: some x :: r) S P X = P x S := id rfl
theorem v4 : wVar 4 (a :: b :: c :: d :: some x :: r) S P X = P x S := id rfl
theorem v5 : wVar 5 (a :: b :: c :: d :: e :: some x :: r) S P X = P x S := id rfl
theorem v6 : wVar 6 (a :: b :: c :: d :: e :: f :: some x :: r) S P X = P x S := id rfl
theorem v7 : wVar 7 (a :: b :: c :: d :: e :: f :: g :: some x :: r) S P X = P x S := id rfl
theorem v8 : wVar 8 (a :: b :: c :: d :: e :: f :: g :: h :: some x :: r) S P X = P x S := id rfl
theorem v9 : wVar 9 (a :: b :: c :: d :: e :: f :: g :: h :: i :: some x :: r) S P X = P x S := id rfl
theorem g0 : gVar 0 x (a :: r) S R X = R (some x :: r) S := id rfl
theorem g1 : gVar 1 x (a :: b :: r) S R X = R (a :: some x :: r) S := id rfl
theorem g2 : gVar 2 x (a :: b :: c :: r) S R X = R (a :: b :: some x :: r) S := id rfl
theorem g3 : gVar 3 x (a :: b :: c :: d :: r) S R X = R (a :: b :: c :: some x :: r) S := id rfl
theorem g4 : gVar 4 x (a :: b :: c :: d :: e :: r) S R X = R (a :: b :: c :: d :: some x :: r) S := id rfl
theorem g5 : gVar 5 x (a :: b :: c :: d :: e :: f :: r) S R X = R (a :: b :: c :: d :: e :: some x :: r) S := id rfl
theorem g6 : gVar 6 x (a :: b :: c :: d :: e :: f :: g :: r) S R X = R (a :: b :: c :: d :: e :: f :: some x :: r) S := id rfl
theorem g7 : gVar 7 x (a :: b :: c :: d :: e :: f :: g :: h :: r) S R X = R (a :: b :: c :: d :: e :: f :: g :: some x :: r) S := id rfl
theorem g8 : gVar 8 x (a :: b :: c :: d :: e :: f :: g :: h :: i :: r) S R X = R (a :: b :: c :: d :: e :: f :: g :: h :: some x :: r) S := id rfl
theorem xc : wC x r S P X = P x S := id rfl
theorem x2 {o : O2} {u v : WE} : w2 o u v r S P X = u r S (fun x S1 => v r S1 (fun y S2 => o x y S2 P) X) X := id rfl
theorem x1 {o : O1} {u : WE} : w1 o u r S P X = u r S (fun x S1 => o x S1 P) X := id rfl
theorem xn {o : ON} {u : WA} : wN o u r S P X = u r S (fun ds S1 => o ds S1 P) X := id rfl
theorem xnil {Q : List D → Sto → Prop} : wNil r S Q X = Q [] S := id rfl
theorem xcons {u : WE} {v : WA} {Q : List D → Sto → Prop} : wCons u v r S Q X = u r S (fun d S1 => v r S1 (fun ds S2 => Q (d :: ds) S2) X) X := id rfl
theorem xtup {u : WA} : wTup u r S P X = u r S (fun ds S1 => ds.length ≤ sizeLine ∧ P (.tup ds) S1) X := id rfl
theorem xlst {u : WA} : wLst u r S P X = u r S (fun ds S1 => ds.length ≤ sizeLine ∧ P (.lst ds) S1) X := id rfl
theorem xcall {c : Con} {ix : List Nat} {u v : WA} : wCall c ix u v r S P X = u r S (fun ds S1 => v r S1 (fun es S2 => c (ds ++ pick ix es) S2 P X) X) X := id rfl
theorem xif {t : WB} {u v : WE} : wIf t u v r S P X = t r S (fun k S1 => if k = true then u r S1 P X else v r S1 P X) X := id rfl
theorem xbl {u : WE} {Q : Bool → Sto → Prop} : wBl u r S Q X = u r S (fun d S' => match d with
  | .bl k => Q k S'
  | _ => False) X := id rfl
theorem xnotB {u : WB} {Q : Bool → Sto → Prop} : wNotB u r S Q X = u r S (fun k S1 => Q (!k) S1) X := id rfl
theorem xandB {u v : WB} {Q : Bool → Sto → Prop} : wAndB u v r S Q X = u r S (fun k S1 => if k = true then v r S1 Q X else Q false S1) X := id rfl
theorem xorB {u v : WB} {Q : Bool → Sto → Prop} : wOrB u v r S Q X = u r S (fun k S1 => if k = true then Q true S1 else v r S1 Q X) X := id rfl
theorem xseq {u v : WS} {E : EndD} {Y : XS} : sSeq u v E Y r S = u { E with nx := fun e s => v E Y e s } Y r S := id rfl
theorem xret {u : WE} {E : EndD} {Y : XS} : sRet u E Y r S = u r S E.rt (fun x S' => Y x r S') := id rfl
theorem xskip {E : EndD} {Y : XS} : sSkip E Y r S = E.nx r S := id rfl
theorem xbreak {E : EndD} {Y : XS} : sBreak E Y r S = E.bk r S := id rfl
theorem xcont {E : EndD} {Y : XS} : sCont E Y r S = E.ct r S := id rfl
theorem xsif {t : WB} {u v : WS} {E : EndD} {Y : XS} : sIf t u v E Y r S = t r S (fun k S' => if k = true then u E Y r S' else v E Y r S') (fun x S' => Y x r S') := id rfl
theorem xset {u : WE} {G : WG} {E : EndD} {Y : XS} : sSet u G E Y r S = u r S (fun d S' => G d r S' E.nx (fun _ _ => False)) (fun x S' => Y x r S') := id rfl
theorem xexpr {u : WE} {E : EndD} {Y : XS} : sExpr u E Y r S = u r S (fun _ S' => E.nx r S') (fun x S' => Y x r S') := id rfl
theorem xraise {cn fl : Str} {u : WA} {E : EndD} {Y : XS} : sRaise cn fl u E Y r S = u r S (fun ds S' => match ds with
  | [d] => Y ⟨cn, [(fl, d)]⟩ r S'
  | _ => False) (fun x S' => Y x r S') := id rfl
theorem xpar2 {k l : Nat} {u : WA} {E : EndD} {Y : XS} : sPar2 k l u E Y r S = u r S (fun ds S' => match ds with
  | [d, e] => E.nx ((r.set k (some d)).set l (some e)) S'
  | _ => False) (fun x S' => Y x r S') := id rfl
theorem xpar3 {k l m : Nat} {u : WA} {E : EndD} {Y : XS} : sPar3 k l m u E Y r S = u r S (fun ds S' => match ds with
  | [d, e, f] => E.nx (((r.set k (some d)).set l (some e)).set m (some f)) S'
  | _ => False) (fun x S' => Y x r S') := id rfl
theorem xfor {wi : WI} {G : WG} {u : WS} {E : EndD} {Y : XS} : sFor wi G u E Y r S = wi r S (fun ds S' => loopD G u E Y ds r S') (fun x S' => Y x r S') := id rfl
theorem xrange {k : Int} {Q : List D → Sto → Prop} : wRange1 (wCons (wC (.int k)) wNil) r S Q X = ((-(2 ^ 62) ≤ k ∧ k < 2 ^ 62) ∧ Q (intsD 0 k.toNat) S) := id rfl
theorem xloop {G : WG} {u : WS} {E : EndD} {Y : XS} {ds : List D} : loopD G u E Y (x :: ds) r S = G x r S (fun e s => u { nx := loopD G u E Y ds, ct := loopD G u E Y ds, bk := E.nx, rt := E.rt } Y e s) (fun _ _ => False) := id rfl
theorem xloopN {G : WG} {u : WS} {E : EndD} {Y : XS} : loopD G u E Y [] r S = E.nx r S := id rfl
theorem ints_len {lo : Int} {n : Nat} : (intsD lo n).length = n := by unfold intsD; rw [List.length_map, List.length_range]
theorem abs_nat (i : Int) : (if i < 0 then -i else i) = (i.natAbs : Int) := by split <;> omega
/-! operators on ints -/
variable {m n : Int}
theorem oaddI : oAdd (.int m) (.int n) S P = P (.int (m + n)) S := id rfl
theorem osubI : oSub (.int m) (.int n) S P = P (.int (m - n)) S := id rfl
theorem omulI : oMul (.int m) (.int n) S P = (CMulW m n ∧ P (.int (m * n)) S) := id rfl
theorem odivI : oDiv (.int m) (.int n) S P = (CDivW m n ∧ P (.int (m / n)) S) := id rfl
theorem omodI : oMod (.int m) (.int n) S P = (0 < n ∧ P (.int (m % n)) S) := id rfl
theorem opowI : oPow (.int m) (.int n) S P = (CPow m n ∧ P (.int (m ^ n.toNat)) S) := id rfl
theorem onegI : oNeg (.int m) S P = P (.int (-m)) S := id rfl
theorem ocmpI {k : Int → Int → Bool} : oCmpI k (.int m) (.int n) S P = P (.bl (k m n)) S := id rfl
theorem ogcdI : oGcd [.int m, .int n] S P = P (.int ((Nat.gcd m.natAbs n.natAbs : Nat) : Int)) S := id rfl
theorem oabsI : oAbs [.int m] S P = P (.int (if m < 0 then -m else m)) S := id rfl
theorem ointI : oInt [.int m] S P = P (.int m) S := id rfl
theorem oeqI : oEq (.int m) (.int n) S P = P (.bl (decide (m = n))) S := by
  show (okD (res S (.int m)) = true ∧ okD (res S (.int n)) = true ∧ P (.bl (eqD (res S (.int m)) (res S (.int n)))) S) = _
  rw [res_int, res_int, okD_int, okD_int, eqD_int]
  simp
theorem oneI : oNe (.int m) (.int n) S P = P (.bl (!decide (m = n))) S := by
  show (okD (res S (.int m)) = true ∧ okD (res S (.int n)) = true ∧ P (.bl (!eqD (res S (.int m)) (res S (.int n)))) S) = _
  rw [res_int, res_int, okD_int, okD_int, eqD_int]
  simp
theorem oeqQ {p q : Rat} : oEq (DQ p) (DQ q) S P = P (.bl (decide (p = q))) S := by
  show (okD (res S (DQ p)) = true ∧ okD (res S (DQ q)) = true ∧ _) = _
  rw [res_DQ, res_DQ, okD_DQ, okD_DQ, eqD_DQ]
  simp
theorem oneQ {p q : Rat} : oNe (DQ p) (DQ q) S P = P (.bl (!decide (p = q))) S := by
  show (okD (res S (DQ p)) = true ∧ okD (res S (DQ q)) = true ∧ _) = _
  rw [res_DQ, res_DQ, okD_DQ, okD_DQ, eqD_DQ]
  simp
theorem oeqS {a b : Str} : oEq (.str a) (.str b) S P = P (.bl (decide (a = b))) S := id rfl
theorem oneS {a b : Str} : oNe (.str a) (.str b) S P = P (.bl (!decide (a = b))) S := id rfl
theorem at_nat {α : Type} (xs : List α) (k : Nat) : atI xs (k : Int) = xs[k]? := by
  unfold atI ixN
  rw [if_pos (by omega)]
  by_cases h : k < xs.length
  · rw [if_pos (by omega)]; rfl
  · rw [if_neg (by omega), List.getElem?_eq_none (by omega)]; rfl
theorem oidx0 {ds : List D} : oIdx (.tup (x :: ds)) (.int 0) S P = P x S := by
  show (match atI (x :: ds) ((0 : Nat) : Int) with
    | some d => P d S
    | none => False) = _
  rw [at_nat]; rfl
theorem oidx1 {ds : List D} : oIdx (.tup (x :: y :: ds)) (.int 1) S P = P y S := by
  show (match atI (x :: y :: ds) ((1 : Nat) : Int) with
    | some d => P d S
    | none => False) = _
  rw [at_nat]; rfl
theorem oidxQ0 {q : Rat} : oIdx (DQ q) (.int 0) S P = P (.int q.num) S := oidx0
theorem oidxQ1 {q : Rat} : oIdx (DQ q) (.int 1) S P = P (.int q.den) S := oidx1
end
end PL
namespace PL
open PySem PySem.Spec L2
/-! ### lists -/
theorem le_line {n : Nat} (h : n ≤ 1000) : n ≤ sizeLine := by rw [sizeLine_eq]; omega
theorem sput_at {S : Sto} {a : Addr} {o : DO} : sput S a o a = some o := by unfold sput; rw [if_pos rfl]
theorem sput_off {S : Sto} {a b : Addr} {o : DO} (h : b ≠ a) : sput S a o b = S b := by unfold sput; rw [if_neg h]
theorem lc_run {G : WG} {t : WB} {w : WE} {vs : List Nat} {env : Env} {p : Addr} {P : PD} {S : Sto} (f : D → Option D) (hp : S p = none) : ∀ (ds acc : List D), acc.length + ds.length ≤ sizeLine →
    (∀ d ∈ ds, ∀ (acc : List D) (R : Sto → Prop), (match f d with
      | some y => lcPut p y R (sput S p (.lst acc))
      | none => R (sput S p (.lst acc))) → G d (wipeD env vs) (sput S p (.lst acc)) (fun e1 S1 => t e1 S1 (fun b S2 => if b = true then w e1 S2 (fun y S3 => lcPut p y R S3) (fun _ _ => False) else R S2) (fun _ _ => False)) (fun _ _ => False)) →
    P (.lst (acc ++ ds.filterMap f)) S → lcD G t w vs env p (lcEnd P p) ds (sput S p (.lst acc))
  | [], acc, _, _, h => by
    rw [List.filterMap_nil, List.append_nil] at h
    show lcEnd P p _
    unfold lcEnd
    rw [sput_at]
    show P (.lst acc) (sdel (sput S p (.lst acc)) p)
    rw [sdel_put hp]
    exact h
  | d :: ds, acc, hl, hs, h => by
    rw [List.length_cons] at hl
    refine hs d List.mem_cons_self acc _ ?_
    cases e : f d with
    | none =>
      rw [List.filterMap_cons, e] at h
      exact lc_run f hp ds acc (by omega) (fun d' hd => hs d' (List.mem_cons_of_mem _ hd)) h
    | some y =>
      rw [List.filterMap_cons, e] at h
      show lcPut p y _ _
      unfold lcPut
      rw [sput_at]
      refine ⟨by omega, ?_⟩
      rw [sput_sput]
      exact lc_run f hp ds (acc ++ [y]) (by rw [List.length_append, List.length_singleton]; omega) (fun d' hd => hs d' (List.mem_cons_of_mem _ hd)) (by rw [List.append_assoc]; exact h)
theorem lc_go {wi : WI} {G : WG} {t : WB} {w : WE} {vs : List Nat} {env : Env} {S S1 : Sto} {P : PD} {X : PX} {ds : List D} (f : D → Option D) (hi : ∀ Q : List D → Sto → Prop, Q ds S → wi env S Q X) (hl : ds.length ≤ sizeLine)
    (hs : ∀ p, S p = none → ∀ d ∈ ds, ∀ (acc : List D) (R : Sto → Prop), (match f d with
      | some y => lcPut p y R (sput S p (.lst acc))
      | none => R (sput S p (.lst acc))) → G d (wipeD env vs) (sput S p (.lst acc)) (fun e1 S1 => t e1 S1 (fun b S2 => if b = true then w e1 S2 (fun y S3 => lcPut p y R S3) (fun _ _ => False) else R S2) (fun _ _ => False)) (fun _ _ => False))
    (h : P (.lst (ds.filterMap f)) S) : wLc wi G t w vs env S P X :=
  hi _ fun p hp => lc_run f hp ds [] (by simpa using hl) (hs p hp) h
/-! ### texts -/
mutual
def wD : PyData → Nat
  | .none => 4
  | .bool _ => 5
  | .int i => i.natAbs.log2 + 3
  | .str x => (reprText x).length
  | .list xs => wDL xs + 2
  | .tuple xs => wDL xs + 4
  | .dict kvs => (PyData.shown (.dict kvs)).length
def wDL : List PyData → Nat
  | [] => 0
  | x :: xs => wD x + 2 + wDL xs
end
theorem lt_ten (n : Nat) : n < 10 ^ (n.log2 + 1) := by
  have h : n < 2 ^ (n.log2 + 1) := Nat.lt_log2_self
  exact Nat.lt_of_lt_of_le h (Nat.pow_le_pow_left (by decide) _)
theorem nat_len (n : Nat) : (Str.ofString (toString ((n : Nat) : Int))).length ≤ n.log2 + 1 := by
  refine PyProof.Rows.toString_length_le (by omega) (by omega) ?_
  have := lt_ten n
  have e : ((10 : Int) ^ (n.log2 + 1)) = ((10 ^ (n.log2 + 1) : Nat) : Int) := (Int.natCast_pow 10 _).symm
  rw [e]
  exact Int.ofNat_lt.mpr this
theorem int_len (i : Int) : (Str.ofString (toString i)).length ≤ i.natAbs.log2 + 2 := by
  cases i with
  | ofNat n => exact Nat.le_trans (nat_len n) (by simp)
  | negSucc n =>
    have e : toString (Int.negSucc n) = "-" ++ toString (((n + 1 : Nat)) : Int) := rfl
    have h := nat_len (n + 1)
    rw [ofString_length] at h ⊢
    rw [e]
    have : (("-" : String) ++ toString (((n + 1 : Nat)) : Int)).length = 1 + (toString (((n + 1 : Nat)) : Int)).length := by rw [String.length_append]; rfl
    rw [this]
    show _ ≤ (n + 1).log2 + 2
    omega
theorem piled_text : ∀ (ts : List Str) (k : Nat) (acc : Str), (textFrom k acc ts).length ≤ acc.length + piled ts
  | [], _, acc => by show acc.length ≤ _; omega
  | t :: ts, k, acc => by
    have ih := piled_text ts (k + 1) (acc ++ (if k > 0 then ", " else "" : String) ++ t)
    rw [piled_cons]
    show (textFrom (k + 1) (acc ++ (if k > 0 then ", " else "" : String) ++ t) ts).length ≤ _
    have e : (acc ++ (if k > 0 then ", " else "" : String) ++ t).length ≤ acc.length + 2 + t.length := by
      rw [strLen_append, strLen_append]
      split
      · have : (((", " : String) : Str)).length = 2 := rfl
        omega
      · have : ((("" : String) : Str)).length = 0 := rfl
        omega
    omega
mutual
theorem shown_len : ∀ d : PyData, d.shown.length ≤ wD d
  | .none => by simp only [PyData.shown, wD]; exact (by decide : ("None" : Str).length ≤ 4)
  | .bool b => by
    simp only [PyData.shown, wD]
    cases b <;> decide
  | .int i => by
    simp only [PyData.shown, wD]
    have := int_len i
    exact Nat.le_trans this (by omega)
  | .str x => by simp only [PyData.shown, wD]; omega
  | .list xs => by
    simp only [PyData.shown, wD]
    have h := shown_lenL xs
    have h2 := piled_text (PyData.shownAll xs) 0 "["
    unfold listText
    rw [strLen_append]
    have e1 : (("[" : String) : Str).length = 1 := rfl
    have e2 : (("]" : String) : Str).length = 1 := rfl
    omega
  | .tuple xs => by
    simp only [PyData.shown, wD]
    have h := shown_lenL xs
    unfold tupleText
    rw [strLen_append, strLen_append]
    have e1 : (("(" : String) : Str).length = 1 := rfl
    have e2 : (((if (PyData.shownAll xs).length == 1 then ",)" else ")" : String) : Str)).length ≤ 2 := by split <;> decide
    have e3 : (Str.join ", " (PyData.shownAll xs)).length ≤ piled (PyData.shownAll xs) := by
      cases h : PyData.shownAll xs with
      | nil => exact (by decide : (Str.join ", " []).length ≤ piled [])
      | cons a l =>
        have := join_length_add (a :: l) (by simp)
        omega
    omega
  | .dict kvs => by simp only [wD]; omega
theorem shown_lenL : ∀ xs : List PyData, piled (PyData.shownAll xs) ≤ wDL xs
  | [] => by simp only [PyData.shownAll, wDL]; exact (by decide : piled [] ≤ 0)
  | x :: xs => by
    simp only [PyData.shownAll, wDL]
    rw [piled_cons]
    have := shown_len x
    have := shown_lenL xs
    omega
end
/-- a value whose text is told -/
structure Shw (d : D) : Prop where
  res : ∀ S, res S d = d
  ok : okD d = true
  sh : (toP d).showable = true
  sz : (shownD d).length ≤ sizeLine
theorem orepr {d : D} {S : Sto} {P : PD} (h : Shw d) : oRepr [d] S P = P (.str (shownD d)) S := by
  show (okD (res S d) = true ∧ (toP (res S d)).showable = true ∧ (shownD (res S d)).length ≤ sizeLine ∧ P (.str (shownD (res S d))) S) = _
  rw [h.res S]
  exact propext ⟨fun z => z.2.2.2, fun z => ⟨h.ok, h.sh, h.sz, z⟩⟩
theorem shw_DQ {q : Rat} (h : Sz 1900 q) : Shw (DQ q) where
  res := fun _ => rfl
  ok := okD_DQ q
  sh := by
    have a := h.1.log
    have b := h.2.log
    simp only [DQ, toP, toPL, PyData.showable, PyData.showableAll, Bool.and_true, Bool.and_eq_true, decide_eq_true_eq]
    omega
  sz := by
    refine Nat.le_trans (shown_len _) ?_
    have a := h.1.log
    have b := h.2.log
    rw [sizeLine_eq]
    simp only [DQ, toP, toPL, wD, wDL]
    omega
end PL
namespace PL
open PySem PySem.Spec L2
theorem frac_low (t b : Int) (hb : 0 < b) : DQ (Rat.divInt t b) = .tup [.int (t / ((Nat.gcd t.natAbs b.natAbs : Nat) : Int)), .int (b / ((Nat.gcd t.natAbs b.natAbs : Nat) : Int))] := by
  unfold DQ
  rw [Rat.num_divInt, Rat.den_divInt, if_neg (by omega)]
  have h1 : b.sign = 1 := Int.sign_eq_one_of_pos hb
  have h2 : Int.gcd b t = Nat.gcd t.natAbs b.natAbs := by rw [Int.gcd, Nat.gcd_comm]
  have h3 : ((b.natAbs / b.gcd t : Nat) : Int) = b / ((Nat.gcd t.natAbs b.natAbs : Nat) : Int) := by
    rw [h2, Int.natCast_ediv, Int.natAbs_of_nonneg (by omega)]
  rw [h1, h2, ← h3, h2, Int.one_mul]
theorem DQ_neg (q : Rat) : DQ (-q) = .tup [.int (-q.num), .int (q.den : Int)] := by
  unfold DQ
  rw [Rat.neg_num, Rat.neg_den]
theorem two_line : 2 ≤ sizeLine := le_line (by decide)
theorem q_half (q : Rat) : q / 2 = Rat.divInt q.num (2 * q.den) := by
  rw [q_div]
  have h1 : (2 : Rat).num = 2 := id rfl
  have h2 : (2 : Rat).den = 1 := id rfl
  rw [h1, h2]
  show Rat.divInt (q.num * 1) (q.den * 2) = _
  rw [Int.mul_one, Int.mul_comm]
theorem bd2 : Bd 2 2 := by unfold Bd; decide
theorem pop_at {a : Addr} {ds : List D} {d : D} {S : Sto} {P : PD} (h : S a = some (.lst (ds ++ [d]))) : oPop (.ref a) S P = P d (sput S a (.lst ds)) := by
  unfold oPop
  simp only [h]
  have e : (ds ++ [d])[(ds ++ [d]).length - 1]? = some d := by simp
  rw [e]
  simp
theorem app_at {a : Addr} {ds : List D} {d : D} {S : Sto} {P : PD} (h : S a = some (.lst ds)) : oApp (.ref a) d S P = (ds.length < sizeLine ∧ P .non (sput S a (.lst (ds ++ [d])))) := by
  unfold oApp
  simp only [h]
theorem idx_at0 {a : Addr} {d : D} {ds : List D} {S : Sto} {P : PD} (h : S a = some (.lst (d :: ds))) : oIdx (.ref a) (.int 0) S P = P d S := by
  unfold oIdx seqOf
  simp only [h]
  show (match atI (d :: ds) ((0 : Nat) : Int) with
    | some d => P d S
    | none => False) = _
  rw [at_nat]; rfl
theorem idx_at1 {a : Addr} {d e : D} {ds : List D} {S : Sto} {P : PD} (h : S a = some (.lst (d :: e :: ds))) : oIdx (.ref a) (.int 1) S P = P e S := by
  unfold oIdx seqOf
  simp only [h]
  show (match atI (d :: e :: ds) ((1 : Nat) : Int) with
    | some d => P d S
    | none => False) = _
  rw [at_nat]; rfl
theorem ok_ints (ns : List Int) : okD (.lst (ns.map D.int)) = true := by
  have h1 : norefL (ns.map D.int) = true := by
    induction ns with
    | nil => rfl
    | cons n r ih => simp [norefL, noref, ih]
  have h2 : PyData.canLayAll0 (toPL (ns.map D.int)) = true := by
    induction ns with
    | nil => rfl
    | cons n r ih =>
      simp only [List.map_cons, toPL, toP, PyData.canLayAll0, PyData.canLay0, Bool.true_and]
      refine ih ?_
      simpa [norefL, noref] using h1
  have h3 : PyData.depthAll (toPL (ns.map D.int)) ≤ 1 := by
    clear h1 h2
    induction ns with
    | nil => simp [toPL, PyData.depthAll]
    | cons n r ih =>
      simp only [List.map_cons, toPL, toP, PyData.depthAll, PyData.depth]
      omega
  unfold okD SeqAt.shaped
  simp only [noref, h1, toP, PyData.canLay0, h2, PyData.depth, Bool.true_and, decide_eq_true_eq]
  omega
theorem eq_nil (ns : List Int) : eqD (.lst (ns.map D.int)) (.lst []) = decide (ns = []) := by
  cases ns with
  | nil => simp [eqD, toP, toPL, PyData.eqv, PyData.eqvAll]
  | cons n r => simp [eqD, toP, toPL, PyData.eqv, PyData.eqvAll]
theorem one_nil {a : Addr} {ns : List Int} {S : Sto} {P : PD} (h : S a = some (.lst (ns.map D.int))) : oNe (.ref a) (.lst []) S P = P (.bl (!decide (ns = []))) S := by
  show (okD (res S (.ref a)) = true ∧ okD (res S (.lst [])) = true ∧ P (.bl (!eqD (res S (.ref a)) (res S (.lst [])))) S) = _
  have e : res S (.ref a) = .lst (ns.map D.int) := by unfold res; simp only [h]
  rw [e, res_lst, ok_ints, eq_nil]
  have : okD (.lst []) = true := id rfl
  rw [this]
  simp
theorem idx_last {a : Addr} {ns : List Int} {n : Int} {S : Sto} {P : PD} (h : S a = some (.lst ((ns ++ [n]).map D.int))) : oIdx (.ref a) (.int (-1)) S P = P (.int n) S := by
  unfold oIdx seqOf
  simp only [h]
  have e : atI ((ns ++ [n]).map D.int) (-1) = some (.int n) := by
    unfold atI ixN
    rw [if_neg (by decide), if_pos (by rw [List.length_map, List.length_append, List.length_singleton]; omega)]
    show ((ns ++ [n]).map D.int)[((-1 : Int) + (((ns ++ [n]).map D.int).length : Nat)).toNat]? = _
    have : ((-1 : Int) + (((ns ++ [n]).map D.int).length : Nat)).toNat = ns.length := by rw [List.length_map, List.length_append, List.length_singleton]; omega
    rw [this, List.getElem?_map, List.getElem?_append_right (Nat.le_refl _)]
    simp
  rw [e]
/-! ### the deal: a list of what is left to draw, and a blend -/
structure Dl (S : Sto) (p q : Addr) (ns : List Int) (b : Int) : Prop where
  sp : S p = some (.lst [.ref q, .int b])
  sq : S q = some (.lst (ns.map D.int))
  ne : q ≠ p
  len : ns.length ≤ 64
  nn : ∀ n ∈ ns, 0 ≤ n
  lo : 0 ≤ b
  hi : b < 2147483647
def Deal (S : Sto) (p q : Addr) : Prop := ∃ ns b, Dl S p q ns b
theorem Dl.deal {S : Sto} {p q : Addr} {ns : List Int} {b : Int} (h : Dl S p q ns b) : Deal S p q := ⟨ns, b, h⟩
/-- nothing else has changed -/
def Fr (p q : Addr) (S S' : Sto) : Prop := ∀ x, x ≠ p → x ≠ q → S' x = S x
theorem Fr.refl {p q : Addr} (S : Sto) : Fr p q S S := fun _ _ _ => rfl
theorem Fr.trans {p q : Addr} {S S1 S2 : Sto} (h : Fr p q S S1) (g : Fr p q S1 S2) : Fr p q S S2 := fun x a b => (g x a b).trans (h x a b)
theorem Fr.putQ {p q : Addr} {S S1 : Sto} {o : DO} (h : Fr p q S S1) : Fr p q S (sput S1 q o) := fun x a b => (sput_off b).trans (h x a b)
theorem Fr.putP {p q : Addr} {S S1 : Sto} {o : DO} (h : Fr p q S S1) : Fr p q S (sput S1 p o) := fun x a b => (sput_off a).trans (h x a b)
theorem Deal.put {S : Sto} {p q r : Addr} {o : DO} (h : Deal S p q) (hp : r ≠ p) (hq : r ≠ q) : Deal (sput S r o) p q := by
  obtain ⟨ns, b, h⟩ := h
  exact ⟨ns, b, by rw [sput_off (Ne.symm hp)]; exact h.sp, by rw [sput_off (Ne.symm hq)]; exact h.sq, h.ne, h.len, h.nn, h.lo, h.hi⟩
theorem Deal.of {S S' : Sto} {p q : Addr} (h : Deal S p q) (ep : S' p = S p) (eq : S' q = S q) : Deal S' p q := by
  obtain ⟨ns, b, h⟩ := h
  exact ⟨ns, b, by rw [ep]; exact h.sp, by rw [eq]; exact h.sq, h.ne, h.len, h.nn, h.lo, h.hi⟩
theorem Deal.neP {S : Sto} {p q r : Addr} (h : Deal S p q) (hr : S r = none) : r ≠ p := fun z => by
  obtain ⟨ns, b, h⟩ := h
  rw [z, h.sp] at hr; cases hr
theorem Deal.neQ {S : Sto} {p q r : Addr} (h : Deal S p q) (hr : S r = none) : r ≠ q := fun z => by
  obtain ⟨ns, b, h⟩ := h
  rw [z, h.sq] at hr; cases hr
theorem Dl.putQ {S : Sto} {p q : Addr} {ns ms : List Int} {b : Int} (h : Dl S p q ns b) (hl : ms.length ≤ 64) (hn : ∀ n ∈ ms, 0 ≤ n) : Dl (sput S q (.lst (ms.map D.int))) p q ms b :=
  ⟨by rw [sput_off (Ne.symm h.ne)]; exact h.sp, sput_at, h.ne, hl, hn, h.lo, h.hi⟩
theorem Dl.putB {S : Sto} {p q : Addr} {ns : List Int} {b c : Int} (h : Dl S p q ns b) (h0 : 0 ≤ c) (h1 : c < 2147483647) : Dl (sput S p (.lst [.ref q, .int c])) p q ns c :=
  ⟨sput_at, by rw [sput_off h.ne]; exact h.sq, h.ne, h.len, h.nn, h0, h1⟩
theorem xpop {u : WE} {r : Env} {S : Sto} {P : PD} {X : PX} : wPop u r S P X = u r S (fun x S1 => oPop x S1 P) X := id rfl
theorem xapp {u v : WE} {r : Env} {S : Sto} {P : PD} {X : PX} : wApp u v r S P X = u r S (fun x S1 => isL S1 x ∧ v r S1 (fun y S2 => oApp x y S2 P) X) X := id rfl
theorem isl {S : Sto} {a : Addr} {ds : List D} (h : S a = some (.lst ds)) : isL S (.ref a) = True := by
  unfold isL
  simp only [h]
theorem xsub {u v : WE} {d : D} {r : Env} {S : Sto} {R : Env → Sto → Prop} {X : PX} : gSubD u v d r S R X = u r S (fun o S1 => v r S1 (fun i S2 => oSet o i d S2 (fun S3 => R r S3)) X) X := id rfl
theorem set_at1 {a : Addr} {x y d : D} {S : Sto} {R : Sto → Prop} (h : S a = some (.lst [x, y])) : oSet (.ref a) (.int 1) d S R = R (sput S a (.lst [x, d])) := by
  unfold oSet
  simp only [h]
  have : ixN [x, y].length 1 = some 1 := by simp [ixN]
  simp only [this]
  rfl
theorem at_mem {α : Type} {xs : List α} {i : Int} (h0 : 0 ≤ i) (h1 : i < xs.length) : ∃ d ∈ xs, atI xs i = some d := by
  obtain ⟨k, rfl⟩ := Int.eq_ofNat_of_zero_le h0
  rw [at_nat]
  have hk : k < xs.length := by omega
  exact ⟨xs[k], List.getElem_mem hk, List.getElem?_eq_getElem hk⟩
theorem idx_any {es : List D} {i : Int} {S : Sto} {P : PD} (h0 : 0 ≤ i) (h1 : i < es.length) (h : ∀ d ∈ es, P d S) : oIdx (.lst es) (.int i) S P := by
  obtain ⟨d, hd, e⟩ := at_mem h0 h1
  show (match atI es i with
    | some d => P d S
    | none => False)
  rw [e]
  exact h d hd
theorem bd_len {n : Nat} (h : n ≤ 1000) : Bd 8000 (n : Int) := Bd.mono (m := 10) (by unfold Bd; rw [Int.natAbs_natCast]; have : (2 : Nat) ^ 10 = 1024 := (by decide); omega) (by decide)
theorem lv0 {t b : Int} (ht : Bd 75 t) (hb : Bd 75 b) (nz : b ≠ 0) : Lv 0 (Rat.divInt t b) := (Sz.divInt ht hb nz).mono (by decide)
theorem xslice {u : WE} {v : WE} {r : Env} {S : Sto} {P : PD} {X : PX} : wSlice u none (some v) r S P X = u r S (fun x S1 => v r S1 (fun d S' => match d with
  | .int i => oSlice x none (some i) S' P
  | _ => False) X) X := id rfl
theorem cut_all {ds : List D} {k : Nat} (h : ds.length ≤ k) : cutD ds none (some (k : Int)) = ds := by
  unfold cutD
  have e1 : HT.sIx ds.length 0 none = 0 := id rfl
  have e2 : HT.sIx ds.length ds.length (some (k : Int)) = ds.length := by
    rw [HT.sIx_nat]
    omega
  rw [e1, e2, List.drop_zero, Nat.sub_zero, List.take_length]
theorem oslice_all {ds : List D} {k : Nat} {S : Sto} {P : PD} (h : ds.length ≤ k) : oSlice (.lst ds) none (some (k : Int)) S P = P (.lst ds) S := by
  show P (.lst (cutD ds none (some (k : Int)))) S = _
  rw [cut_all h]
theorem xitems {u : WE} {r : Env} {S : Sto} {Q : List D → Sto → Prop} {X : PX} : wItems u r S Q X = u r S (fun d S' => match d with
  | .tup ds => Q ds S'
  | .lst ds => Q ds S'
  | _ => False) X := id rfl
theorem xrevN {u : WE} {r : Env} {S : Sto} {P : PD} {X : PX} : wRevN u r S P X = u r S (fun x S' => match x with
  | .tup _ => False
  | _ => match seqOf S' x with
    | some ds => ∀ p, S' p = none → P (.ref p) (sput S' p (.lst ds.reverse))
    | none => False) X := id rfl
theorem xnew {u : WA} {r : Env} {S : Sto} {P : PD} {X : PX} : wNew u r S P X = u r S (fun ds S1 => ds.length ≤ sizeLine ∧ ∀ p, S1 p = none → P (.ref p) (sput S1 p (.lst ds))) X := id rfl
theorem wip3 {a b c d : Option D} : wipeD [a, b, c, d] [3] = [a, b, c, none] := id rfl
theorem xtry {T : List Str} {sub : Str → Str → Bool} {m : Str} {i : Option Nat} {u : WS} {f : FX} {E : EndD} {Y : XS} {r : Env} {S : Sto} : sTry T sub m i u f E Y r S = u E (fun x env' S' => x.cls ∈ T ∧ (∀ j, i = some j → j < env'.length) ∧ if sub x.cls m = true then (match f x with
  | some y => E.rt y S'
  | none => False) else Y x env' S') r S := id rfl
theorem xtru {u : WE} {r : Env} {S : Sto} {Q : Bool → Sto → Prop} {X : PX} : wTru u r S Q X = u r S (fun d S' => match d with
  | .bl k => Q k S'
  | .non => Q false S'
  | .int i => Q (i != 0) S'
  | .str y => y.length ≤ sizeLine ∧ Q ((y.length : Int) != 0) S'
  | .tup ds => Q (!ds.isEmpty) S'
  | .lst ds => Q (!ds.isEmpty) S'
  | .ref a => match S' a with
    | some (.lst ds) => Q (!ds.isEmpty) S'
    | none => False) X := id rfl
theorem xandV {u v : WE} {r : Env} {S : Sto} {P : PD} {X : PX} : wAndV u v r S P X = u r S (fun d S1 => match d with
  | .bl k => if k = true then v r S1 P X else P (.bl false) S1
  | _ => False) X := id rfl
theorem xgt {n : Nat} {gs : WGs} {ds : List D} {r : Env} {S : Sto} {R : Env → Sto → Prop} {X : PX} : gTupD n gs (.tup ds) r S R X = (ds.length = n ∧ gs ds r S R X) := id rfl
theorem xgtQ {n : Nat} {gs : WGs} {q : Rat} {r : Env} {S : Sto} {R : Env → Sto → Prop} {X : PX} : gTupD n gs (DQ q) r S R X = (2 = n ∧ gs [.int q.num, .int q.den] r S R X) := id rfl
theorem xgc {G : WG} {gs : WGs} {d : D} {ds : List D} {r : Env} {S : Sto} {R : Env → Sto → Prop} {X : PX} : gConsD G gs (d :: ds) r S R X = G d r S (fun e s => gs ds e s R X) X := id rfl
theorem xgn {ds : List D} {r : Env} {S : Sto} {R : Env → Sto → Prop} {X : PX} : gNilD ds r S R X = (ds = [] ∧ R r S) := id rfl
/-! ### comprehensions whose items change something -/
theorem lc_st {G : WG} {t : WB} {w : WE} {vs : List Nat} {env : Env} {p : Addr} {P : PD} (I : List D → Sto → Prop) : ∀ (ds acc : List D) (S : Sto), S p = some (.lst acc) → I acc S → acc.length + ds.length ≤ sizeLine →
    (∀ d ∈ ds, ∀ (acc : List D) (S : Sto), S p = some (.lst acc) → I acc S → ∀ R : Sto → Prop, (∀ S1 y, S1 p = some (.lst acc) → I (acc ++ [y]) (sput S1 p (.lst (acc ++ [y]))) → lcPut p y R S1) → G d (wipeD env vs) S (fun e1 S1 => t e1 S1 (fun b S2 => if b = true then w e1 S2 (fun y S3 => lcPut p y R S3) (fun _ _ => False) else R S2) (fun _ _ => False)) (fun _ _ => False)) →
    (∀ (out : List D) (S : Sto), S p = some (.lst out) → I out S → out.length = acc.length + ds.length → P (.lst out) (sdel S p)) → lcD G t w vs env p (lcEnd P p) ds S
  | [], acc, S, hp, hI, _, _, h => by
    show lcEnd P p S
    unfold lcEnd
    simp only [hp]
    exact h acc S hp hI (by rw [List.length_nil, Nat.add_zero])
  | d :: ds, acc, S, hp, hI, hl, hs, h => by
    rw [List.length_cons] at hl
    refine hs d List.mem_cons_self acc S hp hI _ fun S1 y h1 hI1 => ?_
    unfold lcPut
    simp only [h1]
    refine ⟨by omega, lc_st I ds (acc ++ [y]) _ sput_at hI1 (by rw [List.length_append, List.length_singleton]; omega) (fun d' hd => hs d' (List.mem_cons_of_mem _ hd)) fun out S ho hI2 e => h out S ho hI2 (by rw [e, List.length_append, List.length_singleton, List.length_cons]; omega)⟩
end PL
namespace PL
open PySem PySem.Spec L2
section
variable {a0 a1 a2 a3 a4 a5 a6 a7 a8 a9 a10 a11 a12 a13 a14 a15 a16 a17 a18 a19 a20 a21 a22 a23 a24 a25 a26 a27 a28 a29 a30 a31 a32 a33 a34 a35 a36 a37 a38 a39 a40 a41 : Option D} {r : List (Option D)} {x : D} {S : Sto} {P : PD} {X : PX} {R : Env → Sto → Prop}
theorem v10 : wVar 10 (a0 :: a1 :: a2 :: a3 :: a4 :: a5 :: a6 :: a7 :: a8 :: a9 :: some x :: r) S P X = P x S := id rfl
theorem v11 : wVar 11 (a0 :: a1 :: a2 :: a3 :: a4 :: a5 :: a6 :: a7 :: a8 :: a9 :: a10 :: some x :: r) S P X = P x S := id rfl
theorem v12 : wVar 12 (a0 :: a1 :: a2 :: a3 :: a4 :: a5 :: a6 :: a7 :: a8 :: a9 :: a10 :: a11 :: some x :: r) S P X = P x S := id rfl
theorem v13 : wVar 13 (a0 :: a1 :: a2 :: a3 :: a4 :: a5 :: a6 :: a7 :: a8 :: a9 :: a10 :: a11 :: a12 :: some x :: r) S P X = P x S := id rfl
theorem v14 : wVar 14 (a0 :: a1 :: a2 :: a3 :: a4 :: a5 :: a6 :: a7 :: a8 :: a9 :: a10 :: a11 :: a12 :: a13 :: some x :: r) S P X = P x S := id rfl
theorem v15 : wVar 15 (a0 :: a1 :: a2 :: a3 :: a4 :: a5 :: a6 :: a7 :: a8 :: a9 :: a10 :: a11 :: a12 :: a13 :: a14 :: some x :: r) S P X = P x S := id rfl
theorem v16 : wVar 16 (a0 :: a1 :: a2 :: a3 :: a4 :: a5 :: a6 :: a7 :: a8 :: a9 :: a10 :: a11 :: a12 :: a13 :: a14 :: a15 :: some x :: r) S P X = P x S := id rfl
theorem v17 : wVar 17 (a0 :: a1 :: a2 :: a3 :: a4 :: a5 :: a6 :: a7 :: a8 :: a9 :: a10 :: a11 :: a12 :: a13 :: a14 :: a15 :: a16 :: some x :: r) S P X = P x S := id rfl
theorem v18 : wVar 18 (a0 :: a1 :: a2 :: a3 :: a4 :: a5 :: a6 :: a7 :: a8 :: a9 :: a10 :: a11 :: a12 :: a13 :: a14 :: a15 :: a16 :: a17 :: some x :: r) S P X = P x S := id rfl
theorem v19 : wVar 19 (a0 :: a1 :: a2 :: a3 :: a4 :: a5 :: a6 :: a7 :: a8 :: a9 :: a10 :: a11 :: a12 :: a13 :: a14 :: a15 :: a16 :: a17 :: a18 :: some x :: r) S P X = P x S := id rfl
theorem v20 : wVar 20 (a0 :: a1 :: a2 :: a3 :: a4 :: a5 :: a6 :: a7 :: a8 :: a9 :: a10 :: a11 :: a12 :: a13 :: a14 :: a15 :: a16 :: a17 :: a18 :: a19 :: some x :: r) S P X = P x S := id rfl
theorem v21 : wVar 21 (a0 :: a1 :: a2 :: a3 :: a4 :: a5 :: a6 :: a7 :: a8 :: a9 :: a10 :: a11 :: a12 :: a13 :: a14 :: a15 :: a16 :: a17 :: a18 :: a19 :: a20 :: some x :: r) S P X = P x S := id rfl
theorem v22 : wVar 22 (a0 :: a1 :: a2 :: a3 :: a4 :: a5 :: a6 :: a7 :: a8 :: a9 :: a10 :: a11 :: a12 :: a13 :: a14 :: a15 :: a16 :: a17 :: a18 :: a19 :: a20 :: a21 :: some x :: r) S P X = P x S := id rfl
theorem v23 : wVar 23 (a0 :: a1 :: a2 :: a3 :: a4 :: a5 :: a6 :: a7 :: a8 :: a9 :: a10 :: a11 :: a12 :: a13 :: a14 :: a15 :: a16 :: a17 :: a18 :: a19 :: a20 :: a21 :: a22 :: some x :: r) S P X = P x S := id rfl
theorem v24 : wVar 24 (a0 :: a1 :: a2 :: a3 :: a4 :: a5 :: a6 :: a7 :: a8 :: a9 :: a10 :: a11 :: a12 :: a13 :: a14 :: a15 :: a16 :: a17 :: a18 :: a19 :: a20 :: a21 :: a22 :: a23 :: some x :: r) S P X = P x S := id rfl
theorem v25 : wVar 25 (a0 :: a1 :: a2 :: a3 :: a4 :: a5 :: a6 :: a7 :: a8 :: a9 :: a10 :: a11 :: a12 :: a13 :: a14 :: a15 :: a16 :: a17 :: a18 :: a19 :: a20 :: a21 :: a22 :: a23 :: a24 :: some x :: r) S P X = P x S := id rfl
theorem v26 : wVar 26 (a0 :: a1 :: a2 :: a3 :: a4 :: a5 :: a6 :: a7 :: a8 :: a9 :: a10 :: a11 :: a12 :: a13 :: a14 :: a15 :: a16 :: a17 :: a18 :: a19 :: a20 :: a21 :: a22 :: a23 :: a24 :: a25 :: some x :: r) S P X = P x S := id rfl
theorem v27 : wVar 27 (a0 :: a1 :: a2 :: a3 :: a4 :: a5 :: a6 :: a7 :: a8 :: a9 :: a10 :: a11 :: a12 :: a13 :: a14 :: a15 :: a16 :: a17 :: a18 :: a19 :: a20 :: a21 :: a22 :: a23 :: a24 :: a25 :: a26 :: some x :: r) S P X = P x S := id rfl
theorem v28 : wVar 28 (a0 :: a1 :: a2 :: a3 :: a4 :: a5 :: a6 :: a7 :: a8 :: a9 :: a10 :: a11 :: a12 :: a13 :: a14 :: a15 :: a16 :: a17 :: a18 :: a19 :: a20 :: a21 :: a22 :: a23 :: a24 :: a25 :: a26 :: a27 :: some x :: r) S P X = P x S := id rfl
theorem v29 : wVar 29 (a0 :: a1 :: a2 :: a3 :: a4 :: a5 :: a6 :: a7 :: a8 :: a9 :: a10 :: a11 :: a12 :: a13 :: a14 :: a15 :: a16 :: a17 :: a18 :: a19 :: a20 :: a21 :: a22 :: a23 :: a24 :: a25 :: a26 :: a27 :: a28 :: some x :: r) S P X = P x S := id rfl
theorem v30 : wVar 30 (a0 :: a1 :: a2 :: a3 :: a4 :: a5 :: a6 :: a7 :: a8 :: a9 :: a10 :: a11 :: a12 :: a13 :: a14 :: a15 :: a16 :: a17 :: a18 :: a19 :: a20 :: a21 :: a22 :: a23 :: a24 :: a25 :: a26 :: a27 :: a28 :: a29 :: some x :: r) S P X = P x S := id rfl
theorem v31 : wVar 31 (a0 :: a1 :: a2 :: a3 :: a4 :: a5 :: a6 :: a7 :: a8 :: a9 :: a10 :: a11 :: a12 :: a13 :: a14 :: a15 :: a16 :: a17 :: a18 :: a19 :: a20 :: a21 :: a22 :: a23 :: a24 :: a25 :: a26 :: a27 :: a28 :: a29 :: a30 :: some x :: r) S P X = P x S := id rfl
theorem v32 : wVar 32 (a0 :: a1 :: a2 :: a3 :: a4 :: a5 :: a6 :: a7 :: a8 :: a9 :: a10 :: a11 :: a12 :: a13 :: a14 :: a15 :: a16 :: a17 :: a18 :: a19 :: a20 :: a21 :: a22 :: a23 :: a24 :: a25 :: a26 :: a27 :: a28 :: a29 :: a30 :: a31 :: some x :: r) S P X = P x S := id rfl
theorem v33 : wVar 33 (a0 :: a1 :: a2 :: a3 :: a4 :: a5 :: a6 :: a7 :: a8 :: a9 :: a10 :: a11 :: a12 :: a13 :: a14 :: a15 :: a16 :: a17 :: a18 :: a19 :: a20 :: a21 :: a22 :: a23 :: a24 :: a25 :: a26 :: a27 :: a28 :: a29 :: a30 :: a31 :: a32 :: some x :: r) S P X = P x S := id rfl
theorem v34 : wVar 34 (a0 :: a1 :: a2 :: a3 :: a4 :: a5 :: a6 :: a7 :: a8 :: a9 :: a10 :: a11 :: a12 :: a13 :: a14 :: a15 :: a16 :: a17 :: a18 :: a19 :: a20 :: a21 :: a22 :: a23 :: a24 :: a25 :: a26 :: a27 :: a28 :: a29 :: a30 :: a31 :: a32 :: a33 :: some x :: r) S P X = P x S := id rfl
theorem v35 : wVar 35 (a0 :: a1 :: a2 :: a3 :: a4 :: a5 :: a6 :: a7 :: a8 :: a9 :: a10 :: a11 :: a12 :: a13 :: a14 :: a15 :: a16 :: a17 :: a18 :: a19 :: a20 :: a21 :: a22 :: a23 :: a24 :: a25 :: a26 :: a27 :: a28 :: a29 :: a30 :: a31 :: a32 :: a33 :: a34 :: some x :: r) S P X = P x S := id rfl
theorem v36 : wVar 36 (a0 :: a1 :: a2 :: a3 :: a4 :: a5 :: a6 :: a7 :: a8 :: a9 :: a10 :: a11 :: a12 :: a13 :: a14 :: a15 :: a16 :: a17 :: a18 :: a19 :: a20 :: a21 :: a22 :: a23 :: a24 :: a25 :: a26 :: a27 :: a28 :: a29 :: a30 :: a31 :: a32 :: a33 :: a34 :: a35 :: some x :: r) S P X = P x S := id rfl
theorem v37 : wVar 37 (a0 :: a1 :: a2 :: a3 :: a4 :: a5 :: a6 :: a7 :: a8 :: a9 :: a10 :: a11 :: a12 :: a13 :: a14 :: a15 :: a16 :: a17 :: a18 :: a19 :: a20 :: a21 :: a22 :: a23 :: a24 :: a25 :: a26 :: a27 :: a28 :: a29 :: a30 :: a31 :: a32 :: a33 :: a34 :: a35 :: a36 :: some x :: r) S P X = P x S := id rfl
theorem v38 : wVar 38 (a0 :: a1 :: a2 :: a3 :: a4 :: a5 :: a6 :: a7 :: a8 :: a9 :: a10 :: a11 :: a12 :: a13 :: a14 :: a15 :: a16 :: a17 :: a18 :: a19 :: a20 :: a21 :: a22 :: a23 :: a24 :: a25 :: a26 :: a27 :: a28 :: a29 :: a30 :: a31 :: a32 :: a33 :: a34 :: a35 :: a36 :: a37 :: some x :: r) S P X = P x S := id rfl
theorem v39 : wVar 39 (a0 :: a1 :: a2 :: a3 :: a4 :: a5 :: a6 :: a7 :: a8 :: a9 :: a10 :: a11 :: a12 :: a13 :: a14 :: a15 :: a16 :: a17 :: a18 :: a19 :: a20 :: a21 :: a22 :: a23 :: a24 :: a25 :: a26 :: a27 :: a28 :: a29 :: a30 :: a31 :: a32 :: a33 :: a34 :: a35 :: a36 :: a37 :: a38 :: some x :: r) S P X = P x S := id rfl
theorem v40 : wVar 40 (a0 :: a1 :: a2 :: a3 :: a4 :: a5 :: a6 :: a7 :: a8 :: a9 :: a10 :: a11 :: a12 :: a13 :: a14 :: a15 :: a16 :: a17 :: a18 :: a19 :: a20 :: a21 :: a22 :: a23 :: a24 :: a25 :: a26 :: a27 :: a28 :: a29 :: a30 :: a31 :: a32 :: a33 :: a34 :: a35 :: a36 :: a37 :: a38 :: a39 :: some x :: r) S P X = P x S := id rfl
theorem g9 : gVar 9 x (a0 :: a1 :: a2 :: a3 :: a4 :: a5 :: a6 :: a7 :: a8 :: a9 :: r) S R X = R (a0 :: a1 :: a2 :: a3 :: a4 :: a5 :: a6 :: a7 :: a8 :: some x :: r) S := id rfl
theorem g10 : gVar 10 x (a0 :: a1 :: a2 :: a3 :: a4 :: a5 :: a6 :: a7 :: a8 :: a9 :: a10 :: r) S R X = R (a0 :: a1 :: a2 :: a3 :: a4 :: a5 :: a6 :: a7 :: a8 :: a9 :: some x :: r) S := id rfl
theorem g11 : gVar 11 x (a0 :: a1 :: a2 :: a3 :: a4 :: a5 :: a6 :: a7 :: a8 :: a9 :: a10 :: a11 :: r) S R X = R (a0 :: a1 :: a2 :: a3 :: a4 :: a5 :: a6 :: a7 :: a8 :: a9 :: a10 :: some x :: r) S := id rfl
theorem g12 : gVar 12 x (a0 :: a1 :: a2 :: a3 :: a4 :: a5 :: a6 :: a7 :: a8 :: a9 :: a10 :: a11 :: a12 :: r) S R X = R (a0 :: a1 :: a2 :: a3 :: a4 :: a5 :: a6 :: a7 :: a8 :: a9 :: a10 :: a11 :: some x :: r) S := id rfl
theorem g13 : gVar 13 x (a0 :: a1 :: a2 :: a3 :: a4 :: a5 :: a6 :: a7 :: a8 :: a9 :: a10 :: a11 :: a12 :: a13 :: r) S R X = R (a0 :: a1 :: a2 :: a3 :: a4 :: a5 :: a6 :: a7 :: a8 :: a9 :: a10 :: a11 :: a12 :: some x :: r) S := id rfl
theorem g14 : gVar 14 x (a0 :: a1 :: a2 :: a3 :: a4 :: a5 :: a6 :: a7 :: a8 :: a9 :: a10 :: a11 :: a12 :: a13 :: a14 :: r) S R X = R (a0 :: a1 :: a2 :: a3 :: a4 :: a5 :: a6 :: a7 :: a8 :: a9 :: a10 :: a11 :: a12 :: a13 :: some x :: r) S := id rfl
theorem g15 : gVar 15 x (a0 :: a1 :: a2 :: a3 :: a4 :: a5 :: a6 :: a7 :: a8 :: a9 :: a10 :: a11 :: a12 :: a13 :: a14 :: a15 :: r) S R X = R (a0 :: a1 :: a2 :: a3 :: a4 :: a5 :: a6 :: a7 :: a8 :: a9 :: a10 :: a11 :: a12 :: a13 :: a14 :: some x :: r) S := id rfl
theorem g16 : gVar 16 x (a0 :: a1 :: a2 :: a3 :: a4 :: a5 :: a6 :: a7 :: a8 :: a9 :: a10 :: a11 :: a12 :: a13 :: a14 :: a15 :: a16 :: r) S R X = R (a0 :: a1 :: a2 :: a3 :: a4 :: a5 :: a6 :: a7 :: a8 :: a9 :: a10 :: a11 :: a12 :: a13 :: a14 :: a15 :: some x :: r) S := id rfl
theorem g17 : gVar 17 x (a0 :: a1 :: a2 :: a3 :: a4 :: a5 :: a6 :: a7 :: a8 :: a9 :: a10 :: a11 :: a12 :: a13 :: a14 :: a15 :: a16 :: a17 :: r) S R X = R (a0 :: a1 :: a2 :: a3 :: a4 :: a5 :: a6 :: a7 :: a8 :: a9 :: a10 :: a11 :: a12 :: a13 :: a14 :: a15 :: a16 :: some x :: r) S := id rfl
theorem g18 : gVar 18 x (a0 :: a1 :: a2 :: a3 :: a4 :: a5 :: a6 :: a7 :: a8 :: a9 :: a10 :: a11 :: a12 :: a13 :: a14 :: a15 :: a16 :: a17 :: a18 :: r) S R X = R (a0 :: a1 :: a2 :: a3 :: a4 :: a5 :: a6 :: a7 :: a8 :: a9 :: a10 :: a11 :: a12 :: a13 :: a14 :: a15 :: a16 :: a17 :: some x :: r) S := id rfl
theorem g19 : gVar 19 x (a0 :: a1 :: a2 :: a3 :: a4 :: a5 :: a6 :: a7 :: a8 :: a9 :: a10 :: a11 :: a12 :: a13 :: a14 :: a15 :: a16 :: a17 :: a18 :: a19 :: r) S R X = R (a0 :: a1 :: a2 :: a3 :: a4 :: a5 :: a6 :: a7 :: a8 :: a9 :: a10 :: a11 :: a12 :: a13 :: a14 :: a15 :: a16 :: a17 :: a18 :: some x :: r) S := id rfl
theorem g20 : gVar 20 x (a0 :: a1 :: a2 :: a3 :: a4 :: a5 :: a6 :: a7 :: a8 :: a9 :: a10 :: a11 :: a12 :: a13 :: a14 :: a15 :: a16 :: a17 :: a18 :: a19 :: a20 :: r) S R X = R (a0 :: a1 :: a2 :: a3 :: a4 :: a5 :: a6 :: a7 :: a8 :: a9 :: a10 :: a11 :: a12 :: a13 :: a14 :: a15 :: a16 :: a17 :: a18 :: a19 :: some x :: r) S := id rfl
theorem g21 : gVar 21 x (a0 :: a1 :: a2 :: a3 :: a4 :: a5 :: a6 :: a7 :: a8 :: a9 :: a10 :: a11 :: a12 :: a13 :: a14 :: a15 :: a16 :: a17 :: a18 :: a19 :: a20 :: a21 :: r) S R X = R (a0 :: a1 :: a2 :: a3 :: a4 :: a5 :: a6 :: a7 :: a8 :: a9 :: a10 :: a11 :: a12 :: a13 :: a14 :: a15 :: a16 :: a17 :: a18 :: a19 :: a20 :: some x :: r) S := id rfl
theorem g22 : gVar 22 x (a0 :: a1 :: a2 :: a3 :: a4 :: a5 :: a6 :: a7 :: a8 :: a9 :: a10 :: a11 :: a12 :: a13 :: a14 :: a15 :: a16 :: a17 :: a18 :: a19 :: a20 :: a21 :: a22 :: r) S R X = R (a0 :: a1 :: a2 :: a3 :: a4 :: a5 :: a6 :: a7 :: a8 :: a9 :: a10 :: a11 :: a12 :: a13 :: a14 :: a15 :: a16 :: a17 :: a18 :: a19 :: a20 :: a21 :: some x :: r) S := id rfl
theorem g23 : gVar 23 x (a0 :: a1 :: a2 :: a3 :: a4 :: a5 :: a6 :: a7 :: a8 :: a9 :: a10 :: a11 :: a12 :: a13 :: a14 :: a15 :: a16 :: a17 :: a18 :: a19 :: a20 :: a21 :: a22 :: a23 :: r) S R X = R (a0 :: a1 :: a2 :: a3 :: a4 :: a5 :: a6 :: a7 :: a8 :: a9 :: a10 :: a11 :: a12 :: a13 :: a14 :: a15 :: a16 :: a17 :: a18 :: a19 :: a20 :: a21 :: a22 :: some x :: r) S := id rfl
theorem g24 : gVar 24 x (a0 :: a1 :: a2 :: a3 :: a4 :: a5 :: a6 :: a7 :: a8 :: a9 :: a10 :: a11 :: a12 :: a13 :: a14 :: a15 :: a16 :: a17 :: a18 :: a19 :: a20 :: a21 :: a22 :: a23 :: a24 :: r) S R X = R (a0 :: a1 :: a2 :: a3 :: a4 :: a5 :: a6 :: a7 :: a8 :: a9 :: a10 :: a11 :: a12 :: a13 :: a14 :: a15 :: a16 :: a17 :: a18 :: a19 :: a20 :: a21 :: a22 :: a23 :: some x :: r) S := id rfl
theorem g25 : gVar 25 x (a0 :: a1 :: a2 :: a3 :: a4 :: a5 :: a6 :: a7 :: a8 :: a9 :: a10 :: a11 :: a12 :: a13 :: a14 :: a15 :: a16 :: a17 :: a18 :: a19 :: a20 :: a21 :: a22 :: a23 :: a24 :: a25 :: r) S R X = R (a0 :: a1 :: a2 :: a3 :: a4 :: a5 :: a6 :: a7 :: a8 :: a9 :: a10 :: a11 :: a12 :: a13 :: a14 :: a15 :: a16 :: a17 :: a18 :: a19 :: a20 :: a21 :: a22 :: a23 :: a24 :: some x :: r) S := id rfl
theorem g26 : gVar 26 x (a0 :: a1 :: a2 :: a3 :: a4 :: a5 :: a6 :: a7 :: a8 :: a9 :: a10 :: a11 :: a12 :: a13 :: a14 :: a15 :: a16 :: a17 :: a18 :: a19 :: a20 :: a21 :: a22 :: a23 :: a24 :: a25 :: a26 :: r) S R X = R (a0 :: a1 :: a2 :: a3 :: a4 :: a5 :: a6 :: a7 :: a8 :: a9 :: a10 :: a11 :: a12 :: a13 :: a14 :: a15 :: a16 :: a17 :: a18 :: a19 :: a20 :: a21 :: a22 :: a23 :: a24 :: a25 :: some x :: r) S := id rfl
theorem g27 : gVar 27 x (a0 :: a1 :: a2 :: a3 :: a4 :: a5 :: a6 :: a7 :: a8 :: a9 :: a10 :: a11 :: a12 :: a13 :: a14 :: a15 :: a16 :: a17 :: a18 :: a19 :: a20 :: a21 :: a22 :: a23 :: a24 :: a25 :: a26 :: a27 :: r) S R X = R (a0 :: a1 :: a2 :: a3 :: a4 :: a5 :: a6 :: a7 :: a8 :: a9 :: a10 :: a11 :: a12 :: a13 :: a14 :: a15 :: a16 :: a17 :: a18 :: a19 :: a20 :: a21 :: a22 :: a23 :: a24 :: a25 :: a26 :: some x :: r) S := id rfl
theorem g28 : gVar 28 x (a0 :: a1 :: a2 :: a3 :: a4 :: a5 :: a6 :: a7 :: a8 :: a9 :: a10 :: a11 :: a12 :: a13 :: a14 :: a15 :: a16 :: a17 :: a18 :: a19 :: a20 :: a21 :: a22 :: a23 :: a24 :: a25 :: a26 :: a27 :: a28 :: r) S R X = R (a0 :: a1 :: a2 :: a3 :: a4 :: a5 :: a6 :: a7 :: a8 :: a9 :: a10 :: a11 :: a12 :: a13 :: a14 :: a15 :: a16 :: a17 :: a18 :: a19 :: a20 :: a21 :: a22 :: a23 :: a24 :: a25 :: a26 :: a27 :: some x :: r) S := id rfl
theorem g29 : gVar 29 x (a0 :: a1 :: a2 :: a3 :: a4 :: a5 :: a6 :: a7 :: a8 :: a9 :: a10 :: a11 :: a12 :: a13 :: a14 :: a15 :: a16 :: a17 :: a18 :: a19 :: a20 :: a21 :: a22 :: a23 :: a24 :: a25 :: a26 :: a27 :: a28 :: a29 :: r) S R X = R (a0 :: a1 :: a2 :: a3 :: a4 :: a5 :: a6 :: a7 :: a8 :: a9 :: a10 :: a11 :: a12 :: a13 :: a14 :: a15 :: a16 :: a17 :: a18 :: a19 :: a20 :: a21 :: a22 :: a23 :: a24 :: a25 :: a26 :: a27 :: a28 :: some x :: r) S := id rfl
theorem g30 : gVar 30 x (a0 :: a1 :: a2 :: a3 :: a4 :: a5 :: a6 :: a7 :: a8 :: a9 :: a10 :: a11 :: a12 :: a13 :: a14 :: a15 :: a16 :: a17 :: a18 :: a19 :: a20 :: a21 :: a22 :: a23 :: a24 :: a25 :: a26 :: a27 :: a28 :: a29 :: a30 :: r) S R X = R (a0 :: a1 :: a2 :: a3 :: a4 :: a5 :: a6 :: a7 :: a8 :: a9 :: a10 :: a11 :: a12 :: a13 :: a14 :: a15 :: a16 :: a17 :: a18 :: a19 :: a20 :: a21 :: a22 :: a23 :: a24 :: a25 :: a26 :: a27 :: a28 :: a29 :: some x :: r) S := id rfl
theorem g31 : gVar 31 x (a0 :: a1 :: a2 :: a3 :: a4 :: a5 :: a6 :: a7 :: a8 :: a9 :: a10 :: a11 :: a12 :: a13 :: a14 :: a15 :: a16 :: a17 :: a18 :: a19 :: a20 :: a21 :: a22 :: a23 :: a24 :: a25 :: a26 :: a27 :: a28 :: a29 :: a30 :: a31 :: r) S R X = R (a0 :: a1 :: a2 :: a3 :: a4 :: a5 :: a6 :: a7 :: a8 :: a9 :: a10 :: a11 :: a12 :: a13 :: a14 :: a15 :: a16 :: a17 :: a18 :: a19 :: a20 :: a21 :: a22 :: a23 :: a24 :: a25 :: a26 :: a27 :: a28 :: a29 :: a30 :: some x :: r) S := id rfl
theorem g32 : gVar 32 x (a0 :: a1 :: a2 :: a3 :: a4 :: a5 :: a6 :: a7 :: a8 :: a9 :: a10 :: a11 :: a12 :: a13 :: a14 :: a15 :: a16 :: a17 :: a18 :: a19 :: a20 :: a21 :: a22 :: a23 :: a24 :: a25 :: a26 :: a27 :: a28 :: a29 :: a30 :: a31 :: a32 :: r) S R X = R (a0 :: a1 :: a2 :: a3 :: a4 :: a5 :: a6 :: a7 :: a8 :: a9 :: a10 :: a11 :: a12 :: a13 :: a14 :: a15 :: a16 :: a17 :: a18 :: a19 :: a20 :: a21 :: a22 :: a23 :: a24 :: a25 :: a26 :: a27 :: a28 :: a29 :: a30 :: a31 :: some x :: r) S := id rfl
theorem g33 : gVar 33 x (a0 :: a1 :: a2 :: a3 :: a4 :: a5 :: a6 :: a7 :: a8 :: a9 :: a10 :: a11 :: a12 :: a13 :: a14 :: a15 :: a16 :: a17 :: a18 :: a19 :: a20 :: a21 :: a22 :: a23 :: a24 :: a25 :: a26 :: a27 :: a28 :: a29 :: a30 :: a31 :: a32 :: a33 :: r) S R X = R (a0 :: a1 :: a2 :: a3 :: a4 :: a5 :: a6 :: a7 :: a8 :: a9 :: a10 :: a11 :: a12 :: a13 :: a14 :: a15 :: a16 :: a17 :: a18 :: a19 :: a20 :: a21 :: a22 :: a23 :: a24 :: a25 :: a26 :: a27 :: a28 :: a29 :: a30 :: a31 :: a32 :: some x :: r) S := id rfl
theorem g34 : gVar 34 x (a0 :: a1 :: a2 :: a3 :: a4 :: a5 :: a6 :: a7 :: a8 :: a9 :: a10 :: a11 :: a12 :: a13 :: a14 :: a15 :: a16 :: a17 :: a18 :: a19 :: a20 :: a21 :: a22 :: a23 :: a24 :: a25 :: a26 :: a27 :: a28 :: a29 :: a30 :: a31 :: a32 :: a33 :: a34 :: r) S R X = R (a0 :: a1 :: a2 :: a3 :: a4 :: a5 :: a6 :: a7 :: a8 :: a9 :: a10 :: a11 :: a12 :: a13 :: a14 :: a15 :: a16 :: a17 :: a18 :: a19 :: a20 :: a21 :: a22 :: a23 :: a24 :: a25 :: a26 :: a27 :: a28 :: a29 :: a30 :: a31 :: a32 :: a33 :: some x :: r) S := id rfl
theorem g35 : gVar 35 x (a0 :: a1 :: a2 :: a3 :: a4 :: a5 :: a6 :: a7 :: a8 :: a9 :: a10 :: a11 :: a12 :: a13 :: a14 :: a15 :: a16 :: a17 :: a18 :: a19 :: a20 :: a21 :: a22 :: a23 :: a24 :: a25 :: a26 :: a27 :: a28 :: a29 :: a30 :: a31 :: a32 :: a33 :: a34 :: a35 :: r) S R X = R (a0 :: a1 :: a2 :: a3 :: a4 :: a5 :: a6 :: a7 :: a8 :: a9 :: a10 :: a11 :: a12 :: a13 :: a14 :: a15 :: a16 :: a17 :: a18 :: a19 :: a20 :: a21 :: a22 :: a23 :: a24 :: a25 :: a26 :: a27 :: a28 :: a29 :: a30 :: a31 :: a32 :: a33 :: a34 :: some x :: r) S := id rfl
theorem g36 : gVar 36 x (a0 :: a1 :: a2 :: a3 :: a4 :: a5 :: a6 :: a7 :: a8 :: a9 :: a10 :: a11 :: a12 :: a13 :: a14 :: a15 :: a16 :: a17 :: a18 :: a19 :: a20 :: a21 :: a22 :: a23 :: a24 :: a25 :: a26 :: a27 :: a28 :: a29 :: a30 :: a31 :: a32 :: a33 :: a34 :: a35 :: a36 :: r) S R X = R (a0 :: a1 :: a2 :: a3 :: a4 :: a5 :: a6 :: a7 :: a8 :: a9 :: a10 :: a11 :: a12 :: a13 :: a14 :: a15 :: a16 :: a17 :: a18 :: a19 :: a20 :: a21 :: a22 :: a23 :: a24 :: a25 :: a26 :: a27 :: a28 :: a29 :: a30 :: a31 :: a32 :: a33 :: a34 :: a35 :: some x :: r) S := id rfl
theorem g37 : gVar 37 x (a0 :: a1 :: a2 :: a3 :: a4 :: a5 :: a6 :: a7 :: a8 :: a9 :: a10 :: a11 :: a12 :: a13 :: a14 :: a15 :: a16 :: a17 :: a18 :: a19 :: a20 :: a21 :: a22 :: a23 :: a24 :: a25 :: a26 :: a27 :: a28 :: a29 :: a30 :: a31 :: a32 :: a33 :: a34 :: a35 :: a36 :: a37 :: r) S R X = R (a0 :: a1 :: a2 :: a3 :: a4 :: a5 :: a6 :: a7 :: a8 :: a9 :: a10 :: a11 :: a12 :: a13 :: a14 :: a15 :: a16 :: a17 :: a18 :: a19 :: a20 :: a21 :: a22 :: a23 :: a24 :: a25 :: a26 :: a27 :: a28 :: a29 :: a30 :: a31 :: a32 :: a33 :: a34 :: a35 :: a36 :: some x :: r) S := id rfl
theorem g38 : gVar 38 x (a0 :: a1 :: a2 :: a3 :: a4 :: a5 :: a6 :: a7 :: a8 :: a9 :: a10 :: a11 :: a12 :: a13 :: a14 :: a15 :: a16 :: a17 :: a18 :: a19 :: a20 :: a21 :: a22 :: a23 :: a24 :: a25 :: a26 :: a27 :: a28 :: a29 :: a30 :: a31 :: a32 :: a33 :: a34 :: a35 :: a36 :: a37 :: a38 :: r) S R X = R (a0 :: a1 :: a2 :: a3 :: a4 :: a5 :: a6 :: a7 :: a8 :: a9 :: a10 :: a11 :: a12 :: a13 :: a14 :: a15 :: a16 :: a17 :: a18 :: a19 :: a20 :: a21 :: a22 :: a23 :: a24 :: a25 :: a26 :: a27 :: a28 :: a29 :: a30 :: a31 :: a32 :: a33 :: a34 :: a35 :: a36 :: a37 :: some x :: r) S := id rfl
theorem g39 : gVar 39 x (a0 :: a1 :: a2 :: a3 :: a4 :: a5 :: a6 :: a7 :: a8 :: a9 :: a10 :: a11 :: a12 :: a13 :: a14 :: a15 :: a16 :: a17 :: a18 :: a19 :: a20 :: a21 :: a22 :: a23 :: a24 :: a25 :: a26 :: a27 :: a28 :: a29 :: a30 :: a31 :: a32 :: a33 :: a34 :: a35 :: a36 :: a37 :: a38 :: a39 :: r) S R X = R (a0 :: a1 :: a2 :: a3 :: a4 :: a5 :: a6 :: a7 :: a8 :: a9 :: a10 :: a11 :: a12 :: a13 :: a14 :: a15 :: a16 :: a17 :: a18 :: a19 :: a20 :: a21 :: a22 :: a23 :: a24 :: a25 :: a26 :: a27 :: a28 :: a29 :: a30 :: a31 :: a32 :: a33 :: a34 :: a35 :: a36 :: a37 :: a38 :: some x :: r) S := id rfl
theorem g40 : gVar 40 x (a0 :: a1 :: a2 :: a3 :: a4 :: a5 :: a6 :: a7 :: a8 :: a9 :: a10 :: a11 :: a12 :: a13 :: a14 :: a15 :: a16 :: a17 :: a18 :: a19 :: a20 :: a21 :: a22 :: a23 :: a24 :: a25 :: a26 :: a27 :: a28 :: a29 :: a30 :: a31 :: a32 :: a33 :: a34 :: a35 :: a36 :: a37 :: a38 :: a39 :: a40 :: r) S R X = R (a0 :: a1 :: a2 :: a3 :: a4 :: a5 :: a6 :: a7 :: a8 :: a9 :: a10 :: a11 :: a12 :: a13 :: a14 :: a15 :: a16 :: a17 :: a18 :: a19 :: a20 :: a21 :: a22 :: a23 :: a24 :: a25 :: a26 :: a27 :: a28 :: a29 :: a30 :: a31 :: a32 :: a33 :: a34 :: a35 :: a36 :: a37 :: a38 :: a39 :: some x :: r) S := id rfl
end
end PL
namespace PL
open PySem PySem.Spec L2
/-! ### equal to itself -/
mutual
theorem eqv_self : ∀ d : D, PyData.eqv (toP d) (toP d) = true
  | .non => by simp [toP, PyData.eqv]
  | .bl b => by simp [toP, PyData.eqv]
  | .int i => by simp [toP, PyData.eqv]
  | .str x => by simp [toP, PyData.eqv]
  | .ref a => by simp [toP, PyData.eqv]
  | .tup ds => by simp only [toP, PyData.eqv]; exact eqvL_self ds
  | .lst ds => by simp only [toP, PyData.eqv]; exact eqvL_self ds
theorem eqvL_self : ∀ ds : List D, PyData.eqvAll (toPL ds) (toPL ds) = true
  | [] => by simp [toPL, PyData.eqvAll]
  | d :: ds => by simp only [toPL, PyData.eqvAll, Bool.and_eq_true]; exact ⟨eqv_self d, eqvL_self ds⟩
end
theorem eqD_self (d : D) : eqD d d = true := eqv_self d
/-! ### data that can be shown -/
structure Sh (k w : Nat) (d : D) : Prop where
  nr : noref d = true
  lay : (toP d).canLay0 = true
  dep : (toP d).depth ≤ k
  shw : (toP d).showable = true
  wid : wD (toP d) ≤ w
structure ShL (k w : Nat) (ds : List D) : Prop where
  nr : norefL ds = true
  lay : PyData.canLayAll0 (toPL ds) = true
  dep : PyData.depthAll (toPL ds) ≤ k
  shw : PyData.showableAll (toPL ds) = true
  wid : wDL (toPL ds) ≤ w
theorem Sh.mono {k w k' w' : Nat} {d : D} (h : Sh k w d) (hk : k ≤ k') (hw : w ≤ w') : Sh k' w' d := ⟨h.nr, h.lay, Nat.le_trans h.dep hk, h.shw, Nat.le_trans h.wid hw⟩
theorem ShL.nil {k : Nat} : ShL k 0 [] := ⟨rfl, by simp [toPL, PyData.canLayAll0], by simp [toPL, PyData.depthAll], by simp [toPL, PyData.showableAll], by simp [toPL, wDL]⟩
theorem ShL.cons {k w w2 : Nat} {d : D} {ds : List D} (h : Sh k w d) (g : ShL k w2 ds) : ShL k (w + 2 + w2) (d :: ds) := by
  refine ⟨?_, ?_, ?_, ?_, ?_⟩
  · simp only [norefL, h.nr, g.nr, Bool.and_self]
  · simp only [toPL, PyData.canLayAll0, h.lay, g.lay, Bool.and_self]
  · have := h.dep; have := g.dep; simp only [toPL, PyData.depthAll]; omega
  · simp only [toPL, PyData.showableAll, h.shw, g.shw, Bool.and_self]
  · have := h.wid; have := g.wid; simp only [toPL, wDL]; omega
theorem ShL.all {k w : Nat} : ∀ {ds : List D}, (∀ d ∈ ds, Sh k w d) → ShL k (ds.length * (w + 2)) ds
  | [], _ => by simpa using ShL.nil
  | d :: ds, h => by
    have e : (d :: ds).length * (w + 2) = w + 2 + ds.length * (w + 2) := by rw [List.length_cons, Nat.succ_mul, Nat.add_comm]
    rw [e]
    exact ShL.cons (h d List.mem_cons_self) (ShL.all fun x hx => h x (List.mem_cons_of_mem _ hx))
theorem ShL.tup {k w : Nat} {ds : List D} (h : ShL k w ds) : Sh (k + 1) (w + 4) (.tup ds) := by
  refine ⟨by simpa only [noref] using h.nr, by simpa only [toP, PyData.canLay0] using h.lay, ?_, by simpa only [toP, PyData.showable] using h.shw, ?_⟩
  · have := h.dep; simp only [toP, PyData.depth]; omega
  · have := h.wid; simp only [toP, wD]; omega
theorem ShL.lst {k w : Nat} {ds : List D} (h : ShL k w ds) : Sh (k + 1) (w + 4) (.lst ds) := by
  refine ⟨by simpa only [noref] using h.nr, by simpa only [toP, PyData.canLay0] using h.lay, ?_, by simpa only [toP, PyData.showable] using h.shw, ?_⟩
  · have := h.dep; simp only [toP, PyData.depth]; omega
  · have := h.wid; simp only [toP, wD]; omega
theorem Sh.int {n k : Nat} {i : Int} (h : Bd n i) (l : n ≤ 1900) : Sh k (n + 3) (.int i) := by
  have a := h.log
  refine ⟨rfl, by simp [toP, PyData.canLay0], by simp [toP, PyData.depth], ?_, ?_⟩
  · simp only [toP, PyData.showable, decide_eq_true_eq]; omega
  · simp only [toP, wD]; omega
theorem Sh.bl {k : Nat} {b : Bool} : Sh k 5 (.bl b) := ⟨rfl, by simp [toP, PyData.canLay0], by simp [toP, PyData.depth], by simp [toP, PyData.showable], by simp [toP, wD]⟩
theorem Sh.non {k : Nat} : Sh k 5 .non := ⟨rfl, by simp [toP, PyData.canLay0], by simp [toP, PyData.depth], by simp [toP, PyData.showable], by simp [toP, wD]⟩
theorem Sh.q {n k : Nat} {q : Rat} (h : Sz n q) (l : n ≤ 1900) : Sh (k + 1) (2 * n + 14) (DQ q) :=
  (ShL.tup (ShL.cons (Sh.int h.1 l) (ShL.cons (Sh.int h.2 l) .nil))).mono (Nat.le_refl _) (by omega)
theorem okD_str {x : Str} (h : (PyData.str x).canLay0 = true) : okD (.str x) = true := by
  unfold okD SeqAt.shaped
  simp only [noref, toP, PyData.depth, h, Bool.true_and, decide_eq_true_eq]
  omega
theorem Sh.ok {k w : Nat} {d : D} (h : Sh k w d) (l : k ≤ 8) : okD d = true := by
  have := h.dep
  unfold okD SeqAt.shaped
  simp only [h.nr, h.lay, Bool.true_and, decide_eq_true_eq]
  omega
theorem Sh.to {k w : Nat} {d : D} (h : Sh k w d) (l : k ≤ 8) (m : w ≤ 1000000) : Shw d where
  res := fun S => by
    have := h.nr
    cases d <;> first | rfl | cases this
  ok := h.ok l
  sh := h.shw
  sz := Nat.le_trans (shown_len _) (Nat.le_trans h.wid (by rw [sizeLine_eq]; omega))
section
variable {S : Sto} {P : PD} {d : D}
theorem one_self (h : Shw d) : oNe d d S P = P (.bl false) S := by
  have e : (okD (res S d) = true ∧ okD (res S d) = true ∧ P (.bl (!eqD (res S d) (res S d))) S) = P (.bl false) S := by
    rw [h.res S, h.ok, eqD_self]
    simp
  cases d with
  | str x => simp [oNe]
  | _ => exact e
theorem oeq_self (h : Shw d) : oEq d d S P = P (.bl true) S := by
  have e : (okD (res S d) = true ∧ okD (res S d) = true ∧ P (.bl (eqD (res S d) (res S d))) S) = P (.bl true) S := by
    rw [h.res S, h.ok, eqD_self]
    simp
  cases d with
  | str x => simp [oEq]
  | _ => exact e
theorem eqD_bl (a b : Bool) : eqD (.bl a) (.bl b) = decide (a = b) := by cases a <;> cases b <;> rfl
theorem oneB {a b : Bool} : oNe (.bl a) (.bl b) S P = P (.bl (!decide (a = b))) S := by
  show (okD (res S (.bl a)) = true ∧ okD (res S (.bl b)) = true ∧ P (.bl (!eqD (res S (.bl a)) (res S (.bl b)))) S) = _
  rw [res_bl, res_bl, okD_bl, okD_bl, eqD_bl]
  simp
theorem oeqB {a b : Bool} : oEq (.bl a) (.bl b) S P = P (.bl (decide (a = b))) S := by
  show (okD (res S (.bl a)) = true ∧ okD (res S (.bl b)) = true ∧ P (.bl (eqD (res S (.bl a)) (res S (.bl b)))) S) = _
  rw [res_bl, res_bl, okD_bl, okD_bl, eqD_bl]
  simp
theorem oisN {x : D} : oIs x .non S P = P (.bl (isNon x)) S := id rfl
theorem onotN {x : D} : oIsNot x .non S P = P (.bl (!isNon x)) S := id rfl
end
/-! ### points -/
/-- a point -/
def DP (a : Rat × Rat) : D := .tup [DQ a.1, DQ a.2]
def SzP (n : Nat) (a : Rat × Rat) : Prop := Sz n a.1 ∧ Sz n a.2
theorem SzP_mono {m n : Nat} {a : Rat × Rat} (h : SzP m a) (l : m ≤ n) : SzP n a := ⟨h.1.mono l, h.2.mono l⟩
abbrev way (a b : Rat × Rat) : Rat × Rat := (b.1 - a.1, b.2 - a.2)
abbrev crs (u v : Rat × Rat) : Rat := u.1 * v.2 - u.2 * v.1
abbrev alg (u v : Rat × Rat) : Rat := u.1 * v.1 + u.2 * v.2
abbrev dar (a b c : Rat × Rat) : Rat := crs (way a b) (way a c)
abbrev dotq (a b c : Rat × Rat) : Rat := alg (way a b) (way a c)
abbrev mvd (a b : Rat × Rat) (t : Rat) : Rat × Rat := (a.1 + t * (b.1 - a.1), a.2 + t * (b.2 - a.2))
def sgq (q : Rat) : Int := if q.num = 0 then 0 else if 0 < q.num then 1 else -1
theorem iP0 {a : Rat × Rat} {S : Sto} {P : PD} : oIdx (DP a) (.int 0) S P = P (DQ a.1) S := oidx0
theorem iP1 {a : Rat × Rat} {S : Sto} {P : PD} : oIdx (DP a) (.int 1) S P = P (DQ a.2) S := oidx1
theorem sz_way {m n k : Nat} {a b : Rat × Rat} (ha : SzP m a) (hb : SzP n b) (l : n + m + 1 ≤ k) : SzP k (way a b) := ⟨(hb.1.sub ha.1).mono l, (hb.2.sub ha.2).mono l⟩
theorem sz_crs {m n k : Nat} {a b : Rat × Rat} (ha : SzP m a) (hb : SzP n b) (l : m + n + (m + n) + 1 ≤ k) : Sz k (crs a b) := ((ha.1.mul hb.2).sub (ha.2.mul hb.1)).mono l
theorem sz_alg {m n k : Nat} {a b : Rat × Rat} (ha : SzP m a) (hb : SzP n b) (l : m + n + (m + n) + 1 ≤ k) : Sz k (alg a b) := ((ha.1.mul hb.1).add (ha.2.mul hb.2)).mono l
theorem Sh.p {n k : Nat} {p : Rat × Rat} (h : SzP n p) (l : n ≤ 1900) : Sh (k + 2) (4 * n + 40) (DP p) :=
  (ShL.tup (ShL.cons (Sh.q (k := k) h.1 l) (ShL.cons (Sh.q (k := k) h.2 l) .nil))).mono (Nat.le_refl _) (by omega)
/-- a spot -/
def DI (a : Int × Int) : D := .tup [.int a.1, .int a.2]
def BP (n : Nat) (a : Int × Int) : Prop := Bd n a.1 ∧ Bd n a.2
theorem BP.mono {m n : Nat} {a : Int × Int} (h : BP m a) (l : m ≤ n) : BP n a := ⟨h.1.mono l, h.2.mono l⟩
theorem iI0 {a : Int × Int} {S : Sto} {P : PD} : oIdx (DI a) (.int 0) S P = P (.int a.1) S := oidx0
theorem iI1 {a : Int × Int} {S : Sto} {P : PD} : oIdx (DI a) (.int 1) S P = P (.int a.2) S := oidx1
theorem dif1 {n : Nat} {a b : Int × Int} (ha : BP n a) (hb : BP n b) : Bd (n + 1) (a.1 - b.1) ∧ Bd (n + 1) (a.2 - b.2) := ⟨ha.1.sub hb.1, ha.2.sub hb.2⟩
def lcr (a b c : Int × Int) : Int := a.1 * (b.2 - c.2) + b.1 * (c.2 - a.2) + c.1 * (a.2 - b.2)
def sgi (n : Int) : Int := if 0 < n then 1 else if n = 0 then 0 else -1
abbrev pnt (a : Int × Int) (k : Int) : Rat × Rat := (Rat.divInt a.1 k, Rat.divInt a.2 k)
theorem szP_pnt {n : Nat} {a : Int × Int} {k : Int} (ha : BP n a) (hk : Bd n k) (k0 : 0 < k) : SzP n (pnt a k) := ⟨Sz.divInt ha.1 hk (by omega), Sz.divInt ha.2 hk (by omega)⟩
/-! ### signs -/
theorem div_k (x k : Int) : Rat.divInt x k = (x : Rat) / (k : Rat) := by
  exact Rat.divInt_eq_div x k
theorem k_ne {k : Int} (hk : 0 < k) : (k : Rat) ≠ 0 := by
  intro z
  have : k = 0 := by exact_mod_cast z
  omega
theorem sgq_div (n k : Int) (hk : 0 < k) : sgq (Rat.divInt n k) = sgi n := by
  unfold sgq sgi
  rw [Rat.num_divInt]
  have hs : k.sign = 1 := Int.sign_eq_one_of_pos hk
  rw [hs, Int.one_mul]
  have hg : (0 : Int) < ((k.gcd n : Nat) : Int) := Int.ofNat_lt.mpr (Int.gcd_pos_of_ne_zero_left _ (by omega))
  have hd : ((k.gcd n : Nat) : Int) ∣ n := Int.gcd_dvd_right ..
  generalize ((k.gcd n : Nat) : Int) = g at hg hd ⊢
  obtain ⟨m, hm⟩ := hd
  have e : n / g = m := by rw [hm]; exact Int.mul_ediv_cancel_left _ (by omega)
  rw [e]
  by_cases h1 : 0 < m
  · have h2 : 0 < n := by rw [hm]; exact Int.mul_pos hg h1
    rw [if_neg (by omega), if_pos h1, if_pos h2]
  · by_cases h3 : m = 0
    · have h4 : n = 0 := by rw [hm, h3, Int.mul_zero]
      rw [if_pos h3, if_neg (by omega), if_pos h4]
    · have h5 : n < 0 := by rw [hm]; exact Int.mul_neg_of_pos_of_neg hg (by omega)
      rw [if_neg h3, if_neg h1, if_neg (by omega), if_neg (by omega)]
theorem sgq_le {q : Rat} : q.num ≤ 0 ↔ sgq q ≤ 0 := by
  unfold sgq
  split
  · omega
  · split <;> omega
theorem sgq_zero {q : Rat} : q.num = 0 ↔ sgq q = 0 := by
  unfold sgq
  split
  · omega
  · split <;> omega
theorem sgi_neg (n : Int) : sgi (0 - n) = 0 - sgi n := by
  unfold sgi
  by_cases h : 0 < n
  · rw [if_neg (by omega), if_neg (by omega), if_pos h]; rfl
  · by_cases z : n = 0
    · rw [z]; rfl
    · rw [if_pos (by omega), if_neg h, if_neg z]; rfl
theorem sgi_le {n : Int} : sgi n ≤ 0 ↔ n ≤ 0 := by
  unfold sgi
  split
  · omega
  · split <;> omega
theorem sgi_zero {n : Int} : sgi n = 0 ↔ n = 0 := by
  unfold sgi
  split
  · omega
  · split <;> omega
theorem bd_sgi (n : Int) : Bd 2 (sgi n) := by
  unfold sgi Bd
  split
  · decide
  · split <;> decide
theorem bd_sgq (q : Rat) : Bd 2 (sgq q) := by
  unfold sgq Bd
  split
  · decide
  · split <;> decide
theorem q_pos (q : Rat) : 0 < q.num ↔ 0 < q := by
  have h1 := Rat.num_nonneg (q := q)
  have h2 := Rat.num_eq_zero (q := q)
  constructor
  · intro h
    have a : 0 ≤ q := h1.mp (by omega)
    have b : q ≠ 0 := fun z => by rw [h2.mpr z] at h; omega
    exact Std.lt_of_le_of_ne a (Ne.symm b)
  · intro h
    have a : 0 ≤ q.num := h1.mpr (Std.le_of_lt h)
    have b : q.num ≠ 0 := fun z => by rw [h2.mp z] at h; exact absurd h (by grind)
    omega
theorem sgq_of {q : Rat} {n : Int} (h0 : q = 0 ↔ n = 0) (h1 : 0 < q ↔ 0 < n) : sgq q = sgi n := by
  have e0 : q.num = 0 ↔ n = 0 := Rat.num_eq_zero.trans h0
  have e1 : 0 < q.num ↔ 0 < n := (q_pos q).trans h1
  unfold sgq sgi
  by_cases z : n = 0
  · rw [if_pos (e0.mpr z), if_neg (by omega), if_pos z]
  · rw [if_neg (fun y => z (e0.mp y))]
    by_cases p : 0 < n
    · rw [if_pos (e1.mpr p), if_pos p]
    · rw [if_neg (fun y => p (e1.mp y)), if_neg p, if_neg z]
theorem sgq_neg (q : Rat) : sgq (-q) = 0 - sgq q := by
  unfold sgq
  rw [Rat.neg_num]
  by_cases z : q.num = 0
  · rw [if_pos z, if_pos (by omega)]; rfl
  · rw [if_neg z, if_neg (by omega)]
    by_cases p : 0 < q.num
    · rw [if_pos p, if_neg (by omega)]; rfl
    · rw [if_neg p, if_pos (by omega)]; rfl
theorem sq_nn (x : Rat) : 0 ≤ x * x := by
  rcases Rat.le_total (a := 0) (b := x) with h | h
  · exact Rat.mul_nonneg h h
  · have e : x * x = (-x) * (-x) := by grind
    rw [e]
    exact Rat.mul_nonneg (by grind) (by grind)
theorem sq2_zero {x y : Rat} (h : x * x + y * y = 0) : x = 0 ∧ y = 0 := by
  have a := sq_nn x
  have b := sq_nn y
  have c : x * x = 0 := by grind
  have d : y * y = 0 := by grind
  exact ⟨by rcases Rat.mul_eq_zero.mp c with h | h <;> exact h, by rcases Rat.mul_eq_zero.mp d with h | h <;> exact h⟩
theorem dar_pnt (a b c : Int × Int) (k : Int) (hk : 0 < k) : dar (pnt a k) (pnt b k) (pnt c k) = Rat.divInt (lcr a b c) (k * k) := by
  have nz := k_ne hk
  unfold lcr
  simp only [div_k, dar, crs, way, pnt]
  obtain ⟨a1, a2⟩ := a
  obtain ⟨b1, b2⟩ := b
  obtain ⟨c1, c2⟩ := c
  simp only [Rat.intCast_sub, Rat.intCast_add, Rat.intCast_mul]
  generalize (a1 : Rat) = a1
  generalize (a2 : Rat) = a2
  generalize (b1 : Rat) = b1
  generalize (b2 : Rat) = b2
  generalize (c1 : Rat) = c1
  generalize (c2 : Rat) = c2
  generalize (k : Rat) = k at nz
  grind
theorem sgq_dar (a b c : Int × Int) (k : Int) (hk : 0 < k) : sgq (dar (pnt a k) (pnt b k) (pnt c k)) = sgi (lcr a b c) := by
  rw [dar_pnt a b c k hk, sgq_div _ _ (Int.mul_pos hk hk)]
def ldot (a b c : Int × Int) : Int := (b.1 - a.1) * (c.1 - a.1) + (b.2 - a.2) * (c.2 - a.2)
theorem dot_pnt (a b c : Int × Int) (k : Int) (hk : 0 < k) : dotq (pnt a k) (pnt b k) (pnt c k) = Rat.divInt (ldot a b c) (k * k) := by
  have nz := k_ne hk
  unfold ldot
  simp only [div_k, dotq, alg, way, pnt]
  obtain ⟨a1, a2⟩ := a
  obtain ⟨b1, b2⟩ := b
  obtain ⟨c1, c2⟩ := c
  simp only [Rat.intCast_sub, Rat.intCast_add, Rat.intCast_mul]
  generalize (a1 : Rat) = a1
  generalize (a2 : Rat) = a2
  generalize (b1 : Rat) = b1
  generalize (b2 : Rat) = b2
  generalize (c1 : Rat) = c1
  generalize (c2 : Rat) = c2
  generalize (k : Rat) = k at nz
  grind
/-! ### lists that are drawn -/
theorem lc_sk {G : WG} {t : WB} {w : WE} {vs : List Nat} {env : PL.Env} {p : Addr} {k : Sto → Prop} (I : List D → Sto → Prop) : ∀ (ds acc : List D) (S : Sto), S p = some (.lst acc) → I acc S → acc.length + ds.length ≤ sizeLine →
    (∀ d ∈ ds, ∀ (acc : List D) (S : Sto), S p = some (.lst acc) → I acc S → ∀ R : Sto → Prop, (∀ S1 y, S1 p = some (.lst acc) → I (acc ++ [y]) (sput S1 p (.lst (acc ++ [y]))) → lcPut p y R S1) → G d (wipeD env vs) S (fun e1 S1 => t e1 S1 (fun b S2 => if b = true then w e1 S2 (fun y S3 => lcPut p y R S3) (fun _ _ => False) else R S2) (fun _ _ => False)) (fun _ _ => False)) →
    (∀ (out : List D) (S : Sto), S p = some (.lst out) → I out S → out.length = acc.length + ds.length → k S) → lcD G t w vs env p k ds S
  | [], acc, S, hp, hI, _, _, h => h acc S hp hI (by rw [List.length_nil, Nat.add_zero])
  | d :: ds, acc, S, hp, hI, hl, hs, h => by
    rw [List.length_cons] at hl
    refine hs d List.mem_cons_self acc S hp hI _ fun S1 y h1 hI1 => ?_
    unfold lcPut
    simp only [h1]
    refine ⟨by omega, lc_sk I ds (acc ++ [y]) _ sput_at hI1 (by rw [List.length_append, List.length_singleton]; omega) (fun d' hd => hs d' (List.mem_cons_of_mem _ hd)) fun out S ho hI2 e => h out S ho hI2 (by rw [e, List.length_append, List.length_singleton, List.length_cons]; omega)⟩
/-- off the deal and the list at l nothing has changed -/
def Fr3 (p q l : Addr) (S S' : Sto) : Prop := ∀ x, x ≠ p → x ≠ q → x ≠ l → S' x = S x
/-- things of a kind drawn into a new list -/
theorem drawn {G : WG} {w : WE} {vs : List Nat} {env : PL.Env} {S : Sto} {k : Addr → Sto → Prop} {p q : Addr} {m : Nat} (N : D → Prop) (ds : List D) (hds : ds.length = m) (hd : Deal S p q) (hm : m ≤ 1000)
    (hi : ∀ d ∈ ds, ∀ (S1 : Sto), Deal S1 p q → ∀ R : D → Sto → Prop, (∀ y S2, N y → Deal S2 p q → Fr p q S1 S2 → R y S2) → G d (wipeD env vs) S1 (fun e1 S2 => w e1 S2 R (fun _ _ => False)) (fun _ _ => False))
    (h : ∀ l S' es, S l = none → S' l = some (.lst es) → es.length = m → (∀ y ∈ es, N y) → Deal S' p q → Fr3 p q l S S' → k l S') : ∀ l, S l = none → lcD G tYesD w vs env l (k l) ds (sput S l (.lst [])) := fun l hl => by
  have nlp := hd.neP hl
  have nlq := hd.neQ hl
  refine lc_sk (fun acc S' => (∀ y ∈ acc, N y) ∧ Deal S' p q ∧ Fr3 p q l S S') _ [] _ sput_at ⟨(fun y hy => by cases hy), hd.put nlp nlq, fun x _ _ c => sput_off c⟩ (by rw [hds]; exact le_line (by simpa using hm)) (fun d hdm acc S1 hp ⟨ha, hd1, hf⟩ R hR => ?_) fun out S' ho ⟨ha, hd1, hf⟩ e => h l S' out hl ho (by rw [e, hds]; simp) ha hd1 hf
  refine hi d hdm S1 hd1 (fun y S3 => lcPut l y R S3) fun y S2 hy hd2 fr => hR S2 y (by rw [fr l nlp nlq]; exact hp) ⟨fun z hz => ?_, hd2.put nlp nlq, fun x a b c => ?_⟩
  · rcases List.mem_append.mp hz with z | z
    · exact ha _ z
    · rw [List.mem_singleton.mp z]; exact hy
  · rw [sput_off c, fr x a b]; exact hf x a b c
/-- a spot not far off -/
def Nr (n : Nat) (d : D) : Prop := ∃ a : Int × Int, d = DI a ∧ a.1.natAbs ≤ n ∧ a.2.natAbs ≤ n
theorem Nr.mono {m n : Nat} {d : D} (h : Nr m d) (l : m ≤ n) : Nr n d := let ⟨a, e, x, y⟩ := h; ⟨a, e, Nat.le_trans x l, Nat.le_trans y l⟩
theorem four_of {n : Nat} {es : List D} (hl : es.length = 4) (h : ∀ y ∈ es, Nr n y) : ∃ a b c d : Int × Int, es = [DI a, DI b, DI c, DI d] ∧ (a.1.natAbs ≤ n ∧ a.2.natAbs ≤ n) ∧ (b.1.natAbs ≤ n ∧ b.2.natAbs ≤ n) ∧ (c.1.natAbs ≤ n ∧ c.2.natAbs ≤ n) ∧ (d.1.natAbs ≤ n ∧ d.2.natAbs ≤ n) := by
  match es, hl with
  | [w, x, y, z], _ =>
    obtain ⟨a, rfl, ha⟩ := h w (by simp)
    obtain ⟨b, rfl, hb⟩ := h x (by simp)
    obtain ⟨c, rfl, hc⟩ := h y (by simp)
    obtain ⟨d, rfl, hd⟩ := h z (by simp)
    exact ⟨a, b, c, d, rfl, ha, hb, hc, hd⟩
theorem bp {n : Nat} {a : Int × Int} (h : a.1.natAbs ≤ n ∧ a.2.natAbs ≤ n) (l : n ≤ 16000) : BP 14 a := by
  have e : (2 : Nat) ^ 14 = 16384 := by decide
  unfold BP Bd
  omega
theorem xlcN {wi : WI} {G : WG} {t : WB} {w : WE} {vs : List Nat} {r : PL.Env} {S : Sto} {P : PD} {X : PX} : wLcN wi G t w vs r S P X = wi r S (fun ds S1 => ∀ p, S1 p = none → lcD G t w vs r p (lcEndN P p) ds (sput S1 p (.lst []))) X := id rfl
theorem xpre0 {i : Nat} {u : WS} {E : EndD} {Y : XS} {r : PL.Env} {S : Sto} {es : List D} (h : r[i]? = some (some (.lst es))) (k : u E Y r S) : sPre i u E Y r S := by
  unfold sPre
  simp only [h]
  exact k
theorem xpreR {i : Nat} {u : WS} {E : EndD} {Y : XS} {r : PL.Env} {S : Sto} {l : Addr} {es : List D} (h : r[i]? = some (some (.ref l))) (hl : S l = some (.lst es)) (k : u E Y (r.set i (some (.lst es))) (sdel S l)) : sPre i u E Y r S := by
  unfold sPre
  simp only [h, hl]
  exact k
theorem at_idx {l : Addr} {es : List D} {S : Sto} {P : PD} {k : Nat} {d : D} (hl : S l = some (.lst es)) (h : es[k]? = some d) : oIdx (.ref l) (.int (k : Int)) S P = P d S := by
  unfold oIdx seqOf
  simp only [hl, at_nat, h]
theorem lx {es : List D} {S : Sto} {P : PD} {k : Nat} {d : D} (h : es[k]? = some d) : oIdx (.lst es) (.int (k : Int)) S P = P d S := by
  unfold oIdx seqOf
  simp only [at_nat, h]
theorem setI {l : Addr} {es : List D} {S : Sto} {R : Sto → Prop} {k : Nat} {d : D} (hl : S l = some (.lst es)) (h : k < es.length) : oSet (.ref l) (.int (k : Int)) d S R = R (sput S l (.lst (es.set k d))) := by
  unfold oSet
  have e : ixN es.length (k : Int) = some k := by
    unfold ixN
    rw [if_pos (by omega), if_pos (by omega)]
    rfl
  simp only [hl, e]
/-- any place of a list, also from behind -/
theorem ix_any {n : Nat} {i : Int} (h0 : -(n : Int) ≤ i) (h1 : i < n) : ∃ j, ixN n i = some j ∧ j < n := by
  unfold ixN
  by_cases hi : 0 ≤ i
  · rw [if_pos hi, if_pos h1]; exact ⟨_, rfl, by omega⟩
  · rw [if_neg hi, if_pos (by omega)]; exact ⟨_, rfl, by omega⟩
theorem ref_any {l : Addr} {es : List D} {i : Int} {S : Sto} {P : PD} (hl : S l = some (.lst es)) (h0 : -(es.length : Int) ≤ i) (h1 : i < es.length) (h : ∀ d ∈ es, P d S) : oIdx (.ref l) (.int i) S P := by
  obtain ⟨j, ej, hj⟩ := ix_any h0 h1
  unfold oIdx seqOf
  simp only [hl]
  unfold atI
  simp only [ej, Option.bind_some, List.getElem?_eq_getElem hj]
  exact h _ (List.getElem_mem hj)
theorem set_any {l : Addr} {es : List D} {i : Int} {d : D} {S : Sto} {R : Sto → Prop} (hl : S l = some (.lst es)) (h0 : -(es.length : Int) ≤ i) (h1 : i < es.length) (h : ∀ j, R (sput S l (.lst (es.set j d)))) : oSet (.ref l) (.int i) d S R := by
  obtain ⟨j, ej, hj⟩ := ix_any h0 h1
  unfold oSet
  simp only [hl, ej]
  exact h j
theorem fr_del {p q l : Addr} {S S' : Sto} (h : Fr3 p q l S S') (hl : S l = none) : Fr p q S (sdel S' l) := fun x a b => by
  unfold sdel
  by_cases z : x = l
  · rw [if_pos z, z, hl]
  · rw [if_neg z]; exact h x a b z
theorem deal_del {p q l : Addr} {S : Sto} (h : Deal S p q) (hp : l ≠ p) (hq : l ≠ q) : Deal (sdel S l) p q := h.of (by unfold sdel; rw [if_neg (Ne.symm hp)]) (by unfold sdel; rw [if_neg (Ne.symm hq)])
theorem lcEndN_i {P : PD} {l : Addr} {S : Sto} {es : List D} (h : S l = some (.lst es)) (k : P (.ref l) S) : lcEndN P l S := by
  unfold lcEndN
  simp only [h]
  exact k
theorem sdel_ne {S : Sto} {x l : Addr} (h : x ≠ l) : sdel S l x = S x := by unfold sdel; rw [if_neg h]
theorem sdel_at {S : Sto} {l : Addr} : sdel S l l = none := by unfold sdel; rw [if_pos rfl]
theorem lcEnd_i {P : PD} {l : Addr} {S : Sto} {es : List D} (h : S l = some (.lst es)) (k : P (.lst es) (sdel S l)) : lcEnd P l S := by
  unfold lcEnd
  simp only [h]
  exact k
theorem xchain {o o' : O2} {u v w : WE} {r : PL.Env} {S : Sto} {P : PD} {X : PX} : wChain o o' u v w r S P X = u r S (fun x S1 => v r S1 (fun y S2 => o x y S2 (fun z S3 => match z with
  | .bl k => if k = true then w r S3 (fun y2 S4 => o' y y2 S4 P) X else P (.bl false) S3
  | _ => False)) X) X := id rfl
theorem ominI {i j : Int} {S : Sto} {P : PD} : oMin [.int i, .int j] S P = P (.int (min i j)) S := id rfl
theorem omaxI {i j : Int} {S : Sto} {P : PD} : oMax [.int i, .int j] S P = P (.int (max i j)) S := id rfl
theorem omin3 {i j k : Int} {S : Sto} {P : PD} : oMin [.int i, .int j, .int k] S P = P (.int (min (min i j) k)) S := id rfl
theorem lit2 : D.tup [.int 2, .int 1] = DQ 2 := rfl
theorem sz2 : Sz 2 2 := ⟨by unfold Bd; decide, by unfold Bd; decide⟩
theorem g41 {n0 n1 n2 n3 : Nat} {a b c d : D} {r : PL.Env} {S : Sto} {R : PL.Env → Sto → Prop} {X : PX} : gTupD 4 (gConsD (gVar n0) (gConsD (gVar n1) (gConsD (gVar n2) (gConsD (gVar n3) gNilD)))) (.tup [a, b, c, d]) r S R X = R ((((r.set n0 (some a)).set n1 (some b)).set n2 (some c)).set n3 (some d)) S :=
  propext ⟨fun h => h.2.2, fun h => ⟨rfl, rfl, h⟩⟩
theorem g4L {n0 n1 n2 n3 : Nat} {a b c d : D} {r : PL.Env} {S : Sto} {R : PL.Env → Sto → Prop} {X : PX} : gTupD 4 (gConsD (gVar n0) (gConsD (gVar n1) (gConsD (gVar n2) (gConsD (gVar n3) gNilD)))) (.lst [a, b, c, d]) r S R X = R ((((r.set n0 (some a)).set n1 (some b)).set n2 (some c)).set n3 (some d)) S :=
  propext ⟨fun h => h.2.2, fun h => ⟨rfl, rfl, h⟩⟩
end PL
namespace PL
open PySem PySem.Spec L2
theorem xisT {t : Bt} {u : WE} {r : PL.Env} {S : Sto} {P : PD} {X : PX} : wIsT t u r S P X = u r S (fun d S1 => okT S1 d ∧ P (.bl (isTy t d)) S1) X := id rfl
theorem xnotV {u : WE} {r : PL.Env} {S : Sto} {P : PD} {X : PX} : wNotV u r S P X = u r S (fun d S1 => match d with
  | .bl k => P (.bl (!k)) S1
  | _ => False) X := id rfl
theorem okT_nr {S : Sto} {d : D} (h : noref d = true) : okT S d := by cases d <;> first | trivial | cases h
theorem len_t {ds : List D} {S : Sto} {P : PD} : oLen [.tup ds] S P = P (.int ds.length) S := id rfl
theorem len_l {ds : List D} {S : Sto} {P : PD} : oLen [.lst ds] S P = P (.int ds.length) S := id rfl
theorem i0t {x : D} {ds : List D} {S : Sto} {P : PD} : oIdx (.tup (x :: ds)) (.int 0) S P = P x S := oidx0
theorem i1t {x y : D} {ds : List D} {S : Sto} {P : PD} : oIdx (.tup (x :: y :: ds)) (.int 1) S P = P y S := oidx1
theorem i2t {x y z : D} {ds : List D} {S : Sto} {P : PD} : oIdx (.tup (x :: y :: z :: ds)) (.int 2) S P = P z S := by
  show (match atI (x :: y :: z :: ds) ((2 : Nat) : Int) with
    | some d => P d S
    | none => False) = _
  rw [at_nat]; rfl
theorem i0l {x : D} {ds : List D} {S : Sto} {P : PD} : oIdx (.lst (x :: ds)) (.int 0) S P = P x S := lx (k := 0) rfl
theorem i1l {x y : D} {ds : List D} {S : Sto} {P : PD} : oIdx (.lst (x :: y :: ds)) (.int 1) S P = P y S := lx (k := 1) rfl
theorem i2l {x y z : D} {ds : List D} {S : Sto} {P : PD} : oIdx (.lst (x :: y :: z :: ds)) (.int 2) S P = P z S := lx (k := 2) rfl
theorem i3l {x y z w : D} {ds : List D} {S : Sto} {P : PD} : oIdx (.lst (x :: y :: z :: w :: ds)) (.int 3) S P = P w S := lx (k := 3) rfl
theorem wD_mem {x : D} : ∀ {ds : List D}, x ∈ ds → wD (toP x) ≤ wDL (toPL ds) ∧ (toP x).depth ≤ PyData.depthAll (toPL ds)
  | d :: ds, h => by
    simp only [toPL, wDL, PyData.depthAll]
    rcases List.mem_cons.mp h with rfl | h
    · omega
    · have := wD_mem h
      omega
theorem nr_mem {x : D} : ∀ {ds : List D}, x ∈ ds → norefL ds = true → noref x = true
  | d :: ds, h, n => by
    simp only [norefL, Bool.and_eq_true] at n
    rcases List.mem_cons.mp h with rfl | h
    · exact n.1
    · exact nr_mem h n.2
theorem lay_mem {x : D} : ∀ {ds : List D}, x ∈ ds → PyData.canLayAll0 (toPL ds) = true → (toP x).canLay0 = true
  | d :: ds, h, n => by
    simp only [toPL, PyData.canLayAll0, Bool.and_eq_true] at n
    rcases List.mem_cons.mp h with rfl | h
    · exact n.1
    · exact lay_mem h n.2
theorem shw_mem {x : D} : ∀ {ds : List D}, x ∈ ds → PyData.showableAll (toPL ds) = true → (toP x).showable = true
  | d :: ds, h, n => by
    simp only [toPL, PyData.showableAll, Bool.and_eq_true] at n
    rcases List.mem_cons.mp h with rfl | h
    · exact n.1
    · exact shw_mem h n.2
theorem Sh.mem {k w : Nat} {x : D} {ds : List D} (h : Sh k w (.tup ds)) (hx : x ∈ ds) : Sh k w x := by
  obtain ⟨h1, h2, h3, h4, h5⟩ := h
  simp only [noref] at h1
  simp only [toP, PyData.canLay0] at h2
  simp only [toP, PyData.depth] at h3
  simp only [toP, PyData.showable] at h4
  simp only [toP, wD] at h5
  obtain ⟨a, b⟩ := wD_mem hx
  exact ⟨nr_mem hx h1, lay_mem hx h2, by omega, shw_mem hx h4, by omega⟩
theorem Sh.bd {k w : Nat} {i : Int} (h : Sh k w (.int i)) : Bd w i := by
  have h5 := h.wid
  simp only [toP, wD] at h5
  unfold Bd
  have : i.natAbs < 2 ^ (i.natAbs.log2 + 1) := Nat.lt_log2_self
  exact Nat.lt_of_lt_of_le this (Nat.pow_le_pow_right (by decide) (by omega))
theorem sh_str {k : Nat} {x : Str} (h1 : (PyData.str x).canLay0 = true) (h2 : (PyData.str x).showable = true) (h3 : (reprText x).length ≤ 10) : Sh k 10 (.str x) := ⟨rfl, h1, by simp [toP, PyData.depth], h2, by simpa [toP, wD] using h3⟩
theorem shw_q {m : Nat} {q : Rat} (h : Sz m q) (l : m ≤ 1900) : Shw (DQ q) := (Sh.q (k := 0) h l).to (by decide) (by omega)
theorem shw_p {m : Nat} {p : Rat × Rat} (h : SzP m p) (l : m ≤ 1900) : Shw (DP p) := (Sh.p (k := 0) h l).to (by decide) (by omega)
theorem shw_i {m : Nat} {i : Int} (h : Bd m i) (l : m ≤ 1900) : Shw (.int i) := (Sh.int (k := 0) h l).to (by decide) (by omega)
theorem shw_b (b : Bool) : Shw (.bl b) := (Sh.bl (k := 0)).to (by decide) (by decide)
theorem g2x {n1 n2 n3 n4 : Nat} {a b c d : D} {r : PL.Env} {S : Sto} {R : PL.Env → Sto → Prop} {X : PX} : gTupD 2 (gConsD (gTupD 2 (gConsD (gVar n1) (gConsD (gVar n2) gNilD))) (gConsD (gTupD 2 (gConsD (gVar n3) (gConsD (gVar n4) gNilD))) gNilD)) (.tup [.tup [a, b], .tup [c, d]]) r S R X = R ((((r.set n1 (some a)).set n2 (some b)).set n3 (some c)).set n4 (some d)) S :=
  propext ⟨fun h => h.2.2.2.2.2.2, fun h => ⟨rfl, rfl, rfl, rfl, rfl, rfl, h⟩⟩
theorem g2p {n0 n1 : Nat} {a b : D} {r : PL.Env} {S : Sto} {R : PL.Env → Sto → Prop} {X : PX} : gTupD 2 (gConsD (gVar n0) (gConsD (gVar n1) gNilD)) (.tup [a, b]) r S R X = R ((r.set n0 (some a)).set n1 (some b)) S :=
  propext ⟨fun h => h.2.2, fun h => ⟨rfl, rfl, h⟩⟩
theorem g3p {n0 n1 n2 : Nat} {a b c : D} {r : PL.Env} {S : Sto} {R : PL.Env → Sto → Prop} {X : PX} : gTupD 3 (gConsD (gVar n0) (gConsD (gVar n1) (gConsD (gVar n2) gNilD))) (.tup [a, b, c]) r S R X = R (((r.set n0 (some a)).set n1 (some b)).set n2 (some c)) S :=
  propext ⟨fun h => h.2.2, fun h => ⟨rfl, rfl, h⟩⟩
theorem g3l {n0 n1 n2 : Nat} {a b c : D} {r : PL.Env} {S : Sto} {R : PL.Env → Sto → Prop} {X : PX} : gTupD 3 (gConsD (gVar n0) (gConsD (gVar n1) (gConsD (gVar n2) gNilD))) (.lst [a, b, c]) r S R X = R (((r.set n0 (some a)).set n1 (some b)).set n2 (some c)) S :=
  propext ⟨fun h => h.2.2, fun h => ⟨rfl, rfl, h⟩⟩
/-! areas of pairs -/
theorem lcr_rev (a b c : Int × Int) : lcr c b a = 0 - lcr a b c := by unfold lcr; grind
theorem lcr_rot (a b c : Int × Int) : lcr b c a = lcr a b c := by unfold lcr; grind
theorem lcr_swap (a b c : Int × Int) : lcr b a c = 0 - lcr a b c := by unfold lcr; grind
theorem lcr_sum (a b c d : Int × Int) : lcr a b d + (lcr b c d + lcr c a d) = lcr a b c := by unfold lcr; grind
theorem sz_dar {m n o k : Nat} {p q r : Rat × Rat} (hp : SzP m p) (hq : SzP n q) (hr : SzP o r) (l : n + m + 1 + (o + m + 1) + (n + m + 1 + (o + m + 1)) + 1 ≤ k) : Sz k (dar p q r) := sz_crs (sz_way (k := n + m + 1) hp hq (Nat.le_refl _)) (sz_way (k := o + m + 1) hp hr (Nat.le_refl _)) l
theorem sz_dot {m n o k : Nat} {p q r : Rat × Rat} (hp : SzP m p) (hq : SzP n q) (hr : SzP o r) (l : n + m + 1 + (o + m + 1) + (n + m + 1 + (o + m + 1)) + 1 ≤ k) : Sz k (dotq p q r) := sz_alg (sz_way (k := n + m + 1) hp hq (Nat.le_refl _)) (sz_way (k := o + m + 1) hp hr (Nat.le_refl _)) l
/-! quotients of integers -/
theorem cast_ne {m : Int} (h : m ≠ 0) : (m : Rat) ≠ 0 := fun z => h (by exact_mod_cast z)
theorem dv2 (A k t : Rat) (tz : t ≠ 0) (nz : k ≠ 0) : A / (k * t) = A / t / k := by grind
theorem mv1 (a b o m k : Rat) (hm : m ≠ 0) (hk : k ≠ 0) : a / k + o / m * (b / k - a / k) = (a * m + o * (b - a)) / m / k := by grind
abbrev duP (a b : Int × Int) (o m k : Int) : Rat × Rat := (Rat.divInt (a.1 * m + o * (b.1 - a.1)) (k * m), Rat.divInt (a.2 * m + o * (b.2 - a.2)) (k * m))
theorem mv_pnt (a b : Int × Int) (o m k : Int) (hk : 0 < k) (hm : m ≠ 0) : mvd (pnt a k) (pnt b k) ((o : Rat) / (m : Rat)) = duP a b o m k := by
  have nz := k_ne hk
  have mz := cast_ne hm
  unfold mvd duP
  simp only [div_k, pnt, Rat.intCast_add, Rat.intCast_sub, Rat.intCast_mul]
  rw [mv1 _ _ _ _ _ mz nz, mv1 _ _ _ _ _ mz nz, dv2 _ _ _ mz nz, dv2 _ _ _ mz nz]
theorem qq (o m k : Rat) (hm : m ≠ 0) (hk : k ≠ 0) : o / (k * k) / (m / (k * k)) = o / m := by grind
/-- a quotient of two numbers over one square -/
theorem div_div (o m k : Int) (hk : 0 < k) (hm : m ≠ 0) : Rat.divInt o (k * k) / Rat.divInt m (k * k) = Rat.divInt o m := by
  simp only [div_k, Rat.intCast_mul]
  exact qq _ _ _ (cast_ne hm) (k_ne hk)
theorem sgi_cases (n : Int) : (0 < n ∧ sgi n = 1) ∨ (n = 0 ∧ sgi n = 0) ∨ (n < 0 ∧ sgi n = -1) := by
  unfold sgi
  by_cases h1 : 0 < n
  · exact .inl ⟨h1, if_pos h1⟩
  · by_cases h2 : n = 0
    · exact .inr (.inl ⟨h2, by rw [if_neg h1, if_pos h2]⟩)
    · exact .inr (.inr ⟨by omega, by rw [if_neg h1, if_neg h2]⟩)
/-- what a tail of a def that draws into one list knows of it -/
structure Tl (p q l : Addr) (n : Nat) (S0 S : Sto) (es : List D) : Prop where
  deal : Deal S p q
  fr : Fr3 p q l S0 S
  free : S0 l = none
  nlp : l ≠ p
  nlq : l ≠ q
  at_l : S l = some (.lst es)
  near : ∀ y ∈ es, Nr n y
section
variable {p q l : Addr} {S0 S : Sto} {es : List D} {n : Nat} {P : PD}
theorem fr_none {x : Addr} (hd : Deal S p q) (hf : Fr p q S0 S) (h : S x = none) : S0 x = none := by
  rw [← hf x (hd.neP h) (hd.neQ h)]; exact h
theorem Tl.mono {m : Nat} (T : Tl p q l n S0 S es) (h : n ≤ m) : Tl p q l m S0 S es := ⟨T.deal, T.fr, T.free, T.nlp, T.nlq, T.at_l, fun y hy => (T.near y hy).mono h⟩
theorem Tl.step {S' : Sto} (T : Tl p q l n S0 S es) (hd : Deal S' p q) (f : Fr p q S S') : Tl p q l n S0 S' es :=
  ⟨hd, fun x h1 h2 h3 => (f x h1 h2).trans (T.fr x h1 h2 h3), T.free, T.nlp, T.nlq, (f l T.nlp T.nlq).trans T.at_l, T.near⟩
theorem Tl.put {es' : List D} {m : Nat} (T : Tl p q l n S0 S es) (hn : ∀ y ∈ es', Nr m y) : Tl p q l m S0 (sput S l (.lst es')) es' :=
  ⟨T.deal.put T.nlp T.nlq, fun x h1 h2 h3 => by rw [sput_off h3]; exact T.fr x h1 h2 h3, T.free, T.nlp, T.nlq, sput_at, hn⟩
theorem Tl.gone (T : Tl p q l n S0 S es) : Deal (sdel S l) p q ∧ Fr p q S0 (sdel S l) := ⟨deal_del T.deal T.nlp T.nlq, fr_del T.fr T.free⟩
theorem fin_tl {m : Nat} {es' : List D} {S' : Sto} (dl : Deal S p q) (fr0 : Fr p q S0 S) {l2 : Addr} (hl2 : S l2 = none) (hat : S' l2 = some (.lst es')) (hn : ∀ y ∈ es', Nr m y) (hd : Deal S' p q) (f3 : Fr3 p q l2 S S') : Tl p q l2 m S0 S' es' :=
  ⟨hd, fun x h1 h2 h3 => (f3 x h1 h2 h3).trans (fr0 x h1 h2), fr_none dl fr0 hl2, dl.neP hl2, dl.neQ hl2, hat, hn⟩
end
theorem xzip {u : WA} {r : PL.Env} {S : Sto} {Q : List D → Sto → Prop} {X : PX} : wZip u r S Q X = u r S (fun ds S' => match ds with
  | [x, y] => match fixOf x, fixOf y with
    | some as, some bs => Q (List.zipWith (fun x y => .tup [x, y]) as bs) S'
    | _, _ => False
  | _ => False) X := id rfl
theorem xrevI {u : WE} {r : PL.Env} {S : Sto} {Q : List D → Sto → Prop} {X : PX} : wRevI u r S Q X = u r S (fun d S' => match fixOf d with
  | some ds => Q ds.reverse S'
  | none => False) X := id rfl
end PL
namespace PL
open PySem PySem.Spec L2
/-! ### common lemmas, made for k04 and k09 -/
theorem xorV {u v : WE} {r : PL.Env} {S : Sto} {P : PD} {X : PX} : wOrV u v r S P X = u r S (fun d S1 => match d with
  | .bl k => if k = true then P (.bl true) S1 else v r S1 P X
  | _ => False) X := id rfl
theorem xrngA {u : WA} {r : PL.Env} {S : Sto} {Q : List D → Sto → Prop} {X : PX} : wRange1 u r S Q X = u r S (fun ds S' => match ds with
  | [.int k] => (-(2 ^ 62) ≤ k ∧ k < 2 ^ 62) ∧ Q (intsD 0 k.toNat) S'
  | _ => False) X := id rfl
theorem xrng2 {u : WA} {r : PL.Env} {S : Sto} {Q : List D → Sto → Prop} {X : PX} : wRange2 u r S Q X = u r S (fun ds S' => match ds with
  | [.int i, .int j] => (-(2 ^ 62) ≤ i ∧ i < 2 ^ 62 ∧ -(2 ^ 62) ≤ j ∧ j < 2 ^ 62) ∧ Q (intsD i (j - i).toNat) S'
  | _ => False) X := id rfl
theorem xenum {u : WA} {r : PL.Env} {S : Sto} {Q : List D → Sto → Prop} {X : PX} : wEnum u r S Q X = u r S (fun ds S' => match ds with
  | [d] => match fixOf d with
    | some ds => Q (enumD ds) S'
    | none => False
  | _ => False) X := id rfl
theorem ints_cons (lo : Int) (n : Nat) : intsD lo (n + 1) = .int lo :: intsD (lo + 1) n := by
  unfold intsD
  rw [List.range_succ_eq_map, List.map_cons, List.map_map]
  refine congr (congrArg _ (by simp)) (List.map_congr_left fun i _ => ?_)
  show D.int (lo + ((i + 1 : Nat) : Int)) = D.int (lo + 1 + i)
  congr 1
  omega
theorem bd_s {n : Int} {k : Nat} (h : n.natAbs ≤ 1000000) (l : 20 ≤ k) : Bd k n := Bd.mono (m := 20) (by unfold Bd; have : (2 : Nat) ^ 20 = 1048576 := (by decide); omega) l
theorem lx_tup {es : List D} {S : Sto} {P : PD} {k : Nat} {d : D} (h : es[k]? = some d) : oIdx (.tup es) (.int (k : Int)) S P = P d S := by
  unfold oIdx seqOf
  simp only [at_nat, h]
theorem at_neg {α : Type} (xs : List α) (k : Nat) (h0 : 0 < k) (h : k ≤ xs.length) : atI xs (-(k : Int)) = xs[xs.length - k]? := by
  unfold atI ixN
  rw [if_neg (by omega), if_pos (by omega)]
  have e : (-(k : Int) + (xs.length : Int)).toNat = xs.length - k := by omega
  simp only [e, Option.bind_some]
theorem len_tup {xs : List D} {S : Sto} {P : PD} : oLen [.tup xs] S P = P (.int (xs.length : Nat)) S := id rfl
theorem len_lst {xs : List D} {S : Sto} {P : PD} : oLen [.lst xs] S P = P (.int (xs.length : Nat)) S := id rfl
theorem tup_lst {ds : List D} {S : Sto} {P : PD} : oTuple [.lst ds] S P = P (.tup ds) S := id rfl
theorem add_lst {as bs : List D} {S : Sto} {P : PD} : oAdd (.lst as) (.lst bs) S P = (as.length + bs.length ≤ sizeLine ∧ P (.lst (as ++ bs)) S) := id rfl
theorem add_tup {as bs : List D} {S : Sto} {P : PD} : oAdd (.tup as) (.tup bs) S P = (as.length + bs.length ≤ sizeLine ∧ P (.tup (as ++ bs)) S) := id rfl
theorem oisB {a b : Bool} {S : Sto} {P : PD} : oIs (.bl a) (.bl b) S P = P (.bl (decide (a = b))) S := id rfl
theorem oisnB {a b : Bool} {S : Sto} {P : PD} : oIsNot (.bl a) (.bl b) S P = P (.bl (!decide (a = b))) S := id rfl
theorem cut_to (ds : List D) (k : Nat) : cutD ds none (some (k : Int)) = ds.take k := by
  unfold cutD
  have e1 : HT.sIx ds.length 0 none = 0 := id rfl
  rw [e1, HT.sIx_nat, List.drop_zero, Nat.sub_zero]
  by_cases h : k ≤ ds.length
  · congr 1; omega
  · rw [List.take_of_length_le (by omega), List.take_of_length_le (by omega)]
theorem cut_from (ds : List D) (k : Nat) : cutD ds (some (k : Int)) none = ds.drop k := by
  unfold cutD
  have e1 : HT.sIx ds.length ds.length none = ds.length := id rfl
  rw [e1, HT.sIx_nat]
  by_cases h : k ≤ ds.length
  · rw [Nat.min_eq_left h, List.take_of_length_le (by rw [List.length_drop]; omega)]
  · rw [Nat.min_eq_right (by omega), List.drop_of_length_le (by omega), List.drop_of_length_le (by omega), List.take_nil]
theorem cut_mid (ds : List D) (i j : Nat) (h : i ≤ j) (hj : j ≤ ds.length) : cutD ds (some (i : Int)) (some (j : Int)) = (ds.drop i).take (j - i) := by
  unfold cutD
  rw [HT.sIx_nat, HT.sIx_nat, Nat.min_eq_left (by omega), Nat.min_eq_left (by omega)]
theorem slT {u v : WE} {r : PL.Env} {S : Sto} {P : PD} {X : PX} : wSlice u none (some v) r S P X = u r S (fun x S1 => v r S1 (fun d S' => match d with
  | .int i => oSlice x none (some i) S' P
  | _ => False) X) X := id rfl
theorem slF {u v : WE} {r : PL.Env} {S : Sto} {P : PD} {X : PX} : wSlice u (some v) none r S P X = u r S (fun x S1 => v r S1 (fun d S' => match d with
  | .int i => oSlice x (some i) none S' P
  | _ => False) X) X := id rfl
theorem slM {u v w : WE} {r : PL.Env} {S : Sto} {P : PD} {X : PX} : wSlice u (some v) (some w) r S P X = u r S (fun x S1 => v r S1 (fun d S' => match d with
  | .int i => w r S' (fun d S' => match d with
    | .int j => oSlice x (some i) (some j) S' P
    | _ => False) X
  | _ => False) X) X := id rfl
theorem osl_to {ds : List D} {k : Nat} {S : Sto} {P : PD} : oSlice (.tup ds) none (some (k : Int)) S P = P (.tup (ds.take k)) S := by
  show P (.tup (cutD ds none (some (k : Int)))) S = _
  rw [cut_to]
theorem osl_from {ds : List D} {k : Nat} {S : Sto} {P : PD} : oSlice (.tup ds) (some (k : Int)) none S P = P (.tup (ds.drop k)) S := by
  show P (.tup (cutD ds (some (k : Int)) none)) S = _
  rw [cut_from]
theorem osl_mid {ds : List D} {i j : Nat} {S : Sto} {P : PD} (h : i ≤ j) (hj : j ≤ ds.length) : oSlice (.tup ds) (some (i : Int)) (some (j : Int)) S P = P (.tup ((ds.drop i).take (j - i))) S := by
  show P (.tup (cutD ds (some (i : Int)) (some (j : Int)))) S = _
  rw [cut_mid _ _ _ h hj]
theorem xrevT {u : WE} {r : PL.Env} {S : Sto} {P : PD} {X : PX} {ds : List D} (h : ∀ P : PD, u r S P X = P (.tup ds) S) (k : P (.tup ds.reverse) S) : wRev u r S P X := by
  unfold wRev
  rw [h]
  exact k
/-- in a row of spots -/
theorem eqv_DI (a b : Int × Int) : PyData.eqv (toP (DI a)) (toP (DI b)) = decide (a = b) := by
  have e : PyData.eqv (toP (DI a)) (toP (DI b)) = ((a.1 == b.1) && (a.2 == b.2)) := by
    simp [DI, toP, toPL, PyData.eqv, PyData.eqvAll]
  rw [e, Bool.eq_iff_iff, Bool.and_eq_true, beq_iff_eq, beq_iff_eq, decide_eq_true_eq]
  exact ⟨fun h => Prod.ext h.1 h.2, fun h => by subst h; exact ⟨rfl, rfl⟩⟩
theorem any_DI (c : Int × Int) : ∀ cs : List (Int × Int), ((toPL (cs.map DI)).any fun z => PyData.eqv z (toP (DI c))) = decide (c ∈ cs)
  | [] => by simp [toPL]
  | b :: cs => by
    have e : toPL ((b :: cs).map DI) = toP (DI b) :: toPL (cs.map DI) := by simp [toPL]
    rw [e, List.any_cons, eqv_DI, any_DI c cs, Bool.eq_iff_iff, Bool.or_eq_true, decide_eq_true_eq, decide_eq_true_eq, decide_eq_true_eq, List.mem_cons]
    exact or_congr_left ⟨Eq.symm, Eq.symm⟩
theorem ok_int (i : Int) : okD (.int i) = true := by
  unfold okD SeqAt.shaped
  simp [noref, toP, PyData.canLay0, PyData.depth]
end PL
namespace K
open PySem PySem.Spec L2 PL
def clsT : List Str := []
def clsSub : Str → Str → Bool := fun a b => a == b || b == "FieldError"
def war (a b c : Int × Int) : Int := (b.1 - a.1) * (c.2 - a.2) - (b.2 - a.2) * (c.1 - a.1)
def c_whole_area : Con := fun ds S P _ => ∃ a b c, ds = [DI a, DI b, DI c] ∧ BP 1000 a ∧ BP 1000 b ∧ BP 1000 c ∧ P (.int (war a b c)) S
theorem k_war {S : Sto} {P : PD} {X : PX} {i j l : Int × Int} (hi : BP 1000 i) (hj : BP 1000 j) (hl : BP 1000 l) (k : P (.int (war i j l)) S) : c_whole_area [DI i, DI j, DI l] S P X := ⟨i, j, l, rfl, hi, hj, hl, k⟩
def c__law_deal : Con := fun ds S P _ => ∃ (ns : List Int) (base : Int), ds = [D0 ns, .int base] ∧ 0 ≤ base ∧ base ≤ 1000 ∧ ns.length ≤ 63 ∧ ∀ p q S', S p = none → S q = none → Deal S' p q → Fr p q S S' → P (.ref p) S'
def c__law_any : Con := fun ds S P _ => ∃ p q n, ds = [.ref p, .int n] ∧ Deal S p q ∧ 0 < n ∧ Bd 8000 n ∧ ∀ r S', 0 ≤ r → r < n → Deal S' p q → Fr p q S S' → P (.int r) S'
def c_whole_turn : Con := fun ds S P _ => ∃ a b c, ds = [DI a, DI b, DI c] ∧ BP 1000 a ∧ BP 1000 b ∧ BP 1000 c ∧ P (.int (sgi (war a b c))) S
theorem k_wtu {S : Sto} {P : PD} {X : PX} {i j l : Int × Int} (hi : BP 1000 i) (hj : BP 1000 j) (hl : BP 1000 l) (k : P (.int (sgi (war i j l))) S) : c_whole_turn [DI i, DI j, DI l] S P X := ⟨i, j, l, rfl, hi, hj, hl, k⟩
def woB (a b p : Int × Int) : Bool := decide (war a b p = 0) && decide (ldot p a b ≤ 0)
def c_whole_on : Con := fun ds S P _ => ∃ a b c, ds = [DI a, DI b, DI c] ∧ BP 1000 a ∧ BP 1000 b ∧ BP 1000 c ∧ P (.bl (woB a b c)) S
theorem k_won {S : Sto} {P : PD} {X : PX} {i j l : Int × Int} (hi : BP 1000 i) (hj : BP 1000 j) (hl : BP 1000 l) (k : P (.bl (woB i j l)) S) : c_whole_on [DI i, DI j, DI l] S P X := ⟨i, j, l, rfl, hi, hj, hl, k⟩
def c__law_of : Con := fun ds S P _ => ∃ p q es, ds = [.ref p, .lst es] ∧ Deal S p q ∧ es ≠ [] ∧ es.length ≤ 1000 ∧ ∀ d ∈ es, ∀ S', Deal S' p q → Fr p q S S' → P d S'
def wcB (a b c d : Int × Int) : Bool := decide (sgi (war a b c) * sgi (war a b d) < 0) && decide (sgi (war c d a) * sgi (war c d b) < 0)
def c_whole_crosses : Con := fun ds S P _ => ∃ a b c d, ds = [DI a, DI b, DI c, DI d] ∧ BP 1000 a ∧ BP 1000 b ∧ BP 1000 c ∧ BP 1000 d ∧ P (.bl (wcB a b c d)) S
theorem k_wcr {S : Sto} {P : PD} {X : PX} {i j l m : Int × Int} (hi : BP 1000 i) (hj : BP 1000 j) (hl : BP 1000 l) (hm : BP 1000 m) (k : P (.bl (wcB i j l m)) S) : c_whole_crosses [DI i, DI j, DI l, DI m] S P X := ⟨i, j, l, m, rfl, hi, hj, hl, hm, k⟩
def k_FARTHEST : D := .int 1000
def k_FEWEST : D := .int 3
abbrev PT := Int × Int
def RG (cs : List PT) : D := .tup (cs.map DI)
def isTupN (n : Int) (d : D) : Bool := match d with
  | .tup ds => decide ((ds.length : Int) = n)
  | _ => false
def isIntD (d : D) : Bool := isTy .int d && !isTy .bool d
def cor (d : D) : Option PT := match d with
  | .tup [.int a, .int b] => if a.natAbs ≤ 1000 ∧ b.natAbs ≤ 1000 then some (a, b) else none
  | _ => none
/-- a value with nothing that may change -/
structure Val (d : D) : Prop where
  nr : noref d = true
  len : ∀ xs, d = .tup xs → xs.length ≤ 200
def c_is_tuple_of : Con := fun ds S P _ => ∃ d n, ds = [d, .int n] ∧ noref d = true ∧ P (.bl (isTupN n d)) S
def c_is_integer : Con := fun ds S P _ => ∃ d, ds = [d] ∧ noref d = true ∧ P (.bl (isIntD d)) S
def c_is_corner : Con := fun ds S P _ => ∃ d, ds = [d] ∧ noref d = true ∧ P (.bl (cor d).isSome) S
/-- the corner at a place, counted from the end too -/
def cix (cs : List PT) (k : Int) : PT := cs.getD (k % (cs.length : Int)).toNat (0, 0)
def sdL (cs : List PT) : List (PT × PT) := (List.range cs.length).map fun (i : Nat) => (cix cs (i : Int), cix cs ((i : Int) + 1))
def sdD (cs : List PT) : D := .tup ((sdL cs).map fun s => .tup [DI s.1, DI s.2])
def BR (cs : List PT) : Prop := cs.length ≤ 200 ∧ ∀ c ∈ cs, BP 14 c
def c_ring_sides : Con := fun ds S P _ => ∃ cs, ds = [RG cs] ∧ cs ≠ [] ∧ cs.length ≤ 200 ∧ P (sdD cs) S
def smB (a b c d : PT) : Bool := wcB a b c d || (woB a b c || (woB a b d || (woB c d a || woB c d b)))
def c_sides_meet : Con := fun ds S P _ => ∃ a b c d, ds = [.tup [DI a, DI b], .tup [DI c, DI d]] ∧ BP 14 a ∧ BP 14 b ∧ BP 14 c ∧ BP 14 d ∧ P (.bl (smB a b c d)) S
def tbB (a b c : PT) : Bool := decide (war a b c = 0) && !woB a c b
def c_turns_back : Con := fun ds S P _ => ∃ a b c, ds = [DI a, DI b, DI c] ∧ BP 14 a ∧ BP 14 b ∧ BP 14 c ∧ P (.bl (tbB a b c)) S
/-- two sides meet -/
def smI (cs : List PT) (i j : Nat) : Bool := smB (cix cs i) (cix cs (i + 1)) (cix cs j) (cix cs (j + 1))
def ciB (cs : List PT) : Bool := (List.range cs.length).any fun i => tbB (cix cs ((i : Int) - 2)) (cix cs ((i : Int) - 1)) (cix cs i) ||
  (List.range cs.length).any fun j => decide (i + 2 ≤ j) && (decide (j + 1 < cs.length + i) && smI cs i j)
def c_crosses_itself : Con := fun ds S P _ => ∃ cs, ds = [RG cs] ∧ 3 ≤ cs.length ∧ BR cs ∧ P (.bl (ciB cs)) S
/-- the first thing that is no corner, or stands ahead; else all corners -/
def scan (pre : List PT) : List D → Nat ⊕ List PT
  | [] => .inr pre
  | d :: ds => match cor d with
    | none => .inl pre.length
    | some c => if c ∈ pre then .inl pre.length else scan (pre ++ [c]) ds
def rfD (d : D) : D := match d with
  | .tup xs => if xs.length < 3 then .int (-1) else match scan [] xs with
    | .inl k => .int k
    | .inr cs => if ciB cs = true then .int xs.length else .non
  | _ => .int (-1)
def c_ring_fault : Con := fun ds S P _ => ∃ d, ds = [d] ∧ Val d ∧ P (rfD d) S
abbrev nonB : D → Bool := isNon
def c_is_ring : Con := fun ds S P _ => ∃ d, ds = [d] ∧ Val d ∧ P (.bl (nonB (rfD d))) S
def lcB (a b c : PT) : Int := (b.1 - a.1) * (c.2 - b.2) - (b.2 - a.2) * (c.1 - b.1)
def wiB (n w : Int) : Bool := (decide (0 ≤ n) && decide (n ≤ w)) || (decide (w ≤ n) && decide (n ≤ 0))
def mB (a b c d : PT) : Int := (b.1 - a.1) * (d.2 - c.2) - (b.2 - a.2) * (d.1 - c.1)
def mO (a b c d : PT) : Int := (c.1 - a.1) * (d.2 - c.2) - (c.2 - a.2) * (d.1 - c.1)
def mT (a b c d : PT) : Int := (c.1 - a.1) * (b.2 - a.2) - (c.2 - a.2) * (b.1 - a.1)
def apart (a b c d : Int) : Bool := decide (max a b < min c d) || decide (max c d < min a b)
def lmB (a b c d : PT) : Bool := if mB a b c d ≠ 0 then wiB (mO a b c d) (mB a b c d) && wiB (mT a b c d) (mB a b c d) else
  if mT a b c d ≠ 0 then false else !(apart a.1 b.1 c.1 d.1) && !(apart a.2 b.2 c.2 d.2)
/-- half open: the first end, not the second one -/
def Sh (a b c d : PT) : Prop := ∃ u v x y : Int, 0 < u ∧ 0 ≤ v ∧ 0 < x ∧ 0 ≤ y ∧ u + v = x + y ∧ u * a.1 + v * b.1 = x * c.1 + y * d.1 ∧ u * a.2 + v * b.2 = x * c.2 + y * d.2
/-- by places: no two sides have a point in common -/
structure Simple (cs : List PT) : Prop where
  len : 3 ≤ cs.length
  apart : ∀ i j : Nat, i < cs.length → j < cs.length → i ≠ j → ¬ Sh (cix cs (i : Int)) (cix cs ((i : Int) + 1)) (cix cs (j : Int)) (cix cs ((j : Int) + 1))
  long : ∀ i : Nat, i < cs.length → cix cs (i : Int) ≠ cix cs ((i : Int) + 1)
/-- sums over all sides -/
def crz (a b : PT) : Int := a.1 * b.2 - a.2 * b.1
def arG (g : PT → PT → Int) (cs : List PT) : Int := ((List.range cs.length).map fun (k : Nat) => g (cix cs (k : Int)) (cix cs ((k : Int) + 1))).sum
abbrev arA (cs : List PT) : Int := arG crz cs
/-- a drawn ring: not too long, not too far -/
structure Rg (n b : Nat) (cs : List PT) : Prop where
  simple : Simple cs
  area : 0 < arA cs
  len : cs.length ≤ n
  bd : ∀ c ∈ cs, c.1.natAbs ≤ b ∧ c.2.natAbs ≤ b
def c__law_star : Con := fun ds S P _ => ∃ p q, ds = [.ref p, DI (0, 0), .int 9, .int 3] ∧ Deal S p q ∧ ∀ cs S', Rg 16 100 cs → Deal S' p q → Fr p q S S' → P (RG cs) S'
def c__law_wave : Con := fun ds S P _ => ∃ p q m, ds = [.ref p, .int m] ∧ Deal S p q ∧ 2 ≤ m ∧ m ≤ 4 ∧ ∀ cs S', Rg 16 100 cs → Deal S' p q → Fr p q S S' → P (RG cs) S'
def c__law_more : Con := fun ds S P _ => ∃ p q cs, ds = [.ref p, RG cs] ∧ Deal S p q ∧ Rg 16 500 cs ∧ ∀ cs S', Rg 32 500 cs → Deal S' p q → Fr p q S S' → P (RG cs) S'
def rlD (a b c d e f : Int) : D := .tup [.int a, .int b, .int c, .int d, .int e, .int f]
def Rl (a b c d e f : Int) : Prop := (a * d - b * c = 1 ∨ a * d - b * c = -1) ∧ a.natAbs ≤ 2 ∧ b.natAbs ≤ 2 ∧ c.natAbs ≤ 2 ∧ d.natAbs ≤ 2 ∧ e.natAbs ≤ 50 ∧ f.natAbs ≤ 50
def c__law_map : Con := fun ds S P _ => ∃ p q, ds = [.ref p] ∧ Deal S p q ∧ ∀ a b c d e f S', Rl a b c d e f → Deal S' p q → Fr p q S S' → P (rlD a b c d e f) S'
def putP (a b c d e f : Int) (x : PT) : PT := (a * x.1 + b * x.2 + e, c * x.1 + d * x.2 + f)
def putL (a b c d e f : Int) (cs : List PT) : List PT := if 0 < a * d - b * c then cs.map (putP a b c d e f) else (cs.map (putP a b c d e f)).reverse
def c__law_put : Con := fun ds S P _ => ∃ a b c d e f cs, ds = [RG cs, rlD a b c d e f] ∧ Rg 16 100 cs ∧ Rl a b c d e f ∧ P (RG (putL a b c d e f cs)) S
def c__law_ring : Con := fun ds S P _ => ∃ p q, ds = [.ref p] ∧ Deal S p q ∧ ∀ cs S', Rg 32 500 cs → Deal S' p q → Fr p q S S' → P (RG cs) S'

/-- the corners that are not straight, n of them from a place on -/
def bd (cs : List PT) (k : Int) : Bool := decide (war (cix cs (k - 1)) (cix cs k) (cix cs (k + 1)) ≠ 0)
def FI (cs : List PT) (lo : Int) (n : Nat) : List PT := ((List.range n).filter fun (k : Nat) => bd cs (lo + (k : Int))).map fun (k : Nat) => cix cs (lo + (k : Int))
def FB (cs : List PT) : List PT := FI cs 0 cs.length
def minP : List PT → PT
  | [] => (0, 0)
  | c :: cs => PySem.W.minOf c cs
/-- from the least on -/
def canon (fs : List PT) : List PT := fs.dropWhile (fun x => decide (x ≠ minP fs)) ++ fs.takeWhile (fun x => decide (x ≠ minP fs))
def B3 (cs : List PT) : Prop := ∀ c ∈ cs, c.1.natAbs ≤ 1000 ∧ c.2.natAbs ≤ 1000
def c_ring_area : Con := fun ds S P _ => ∃ cs, ds = [RG cs] ∧ cs ≠ [] ∧ cs.length ≤ 200 ∧ B3 cs ∧ P (.int (arA cs)) S
def c_turned_ring : Con := fun ds S P _ => ∃ c cs, ds = [RG (c :: cs)] ∧ cs.length ≤ 200 ∧ P (RG (c :: cs.reverse)) S
def c_begun : Con := fun ds S P _ => ∃ (cs : List PT) (k : Nat), ds = [RG cs, .int (k : Int)] ∧ cs.length ≤ 200 ∧ P (RG (cs.drop k ++ cs.take k)) S
def c_straightened : Con := fun ds S P _ => ∃ cs, ds = [RG cs] ∧ 3 ≤ cs.length ∧ cs.length ≤ 200 ∧ B3 cs ∧ FB cs ≠ [] ∧ P (RG (canon (FB cs))) S
def c__law_straight : Con := c_straightened
def c__law_area : Con := fun ds S P _ => ∃ cs s, ds = [RG cs, DI s] ∧ cs ≠ [] ∧ cs.length ≤ 200 ∧ B3 cs ∧ s.1.natAbs ≤ 1000 ∧ s.2.natAbs ≤ 1000 ∧ P (.int (arA cs)) S
def c_law : Con := LawC
def N_is_integer : List Str := ["value"]
def w_is_integer : WS := (sRet (wAndV (wIsT .int (wVar 0)) (wNotV (wIsT .bool (wVar 0)))))
def N_is_tuple_of : List Str := ["value", "size"]
def w_is_tuple_of : WS := (sRet (wAndV (wIsT .tuple (wVar 0)) (w2 oEq (wN oLen (wCons (wVar 0) wNil)) (wVar 1))))
def N_whole_area : List Str := ["a", "b", "c"]
def w_whole_area : WS := (sRet (w2 oSub (w2 oMul (w2 oSub (w2 oIdx (wVar 1) (wC (.int 0))) (w2 oIdx (wVar 0) (wC (.int 0)))) (w2 oSub (w2 oIdx (wVar 2) (wC (.int 1))) (w2 oIdx (wVar 0) (wC (.int 1))))) (w2 oMul (w2 oSub (w2 oIdx (wVar 1) (wC (.int 1))) (w2 oIdx (wVar 0) (wC (.int 1)))) (w2 oSub (w2 oIdx (wVar 2) (wC (.int 0))) (w2 oIdx (wVar 0) (wC (.int 0)))))))
def N_ring_sides : List Str := ["ring", "at"]
def w_ring_sides : WS := (sRet (wN oTuple (wCons (w2 oAdd (wLc (wRange2 (wCons (wC (.int 1)) (wCons (wN oLen (wCons (wVar 0) wNil)) wNil))) (gVar 1) tYesD (wTup (wCons (w2 oIdx (wVar 0) (w2 oSub (wVar 1) (wC (.int 1)))) (wCons (w2 oIdx (wVar 0) (wVar 1)) wNil))) [1]) (wLst (wCons (wTup (wCons (w2 oIdx (wVar 0) (w1 oNeg (wC (.int 1)))) (wCons (w2 oIdx (wVar 0) (wC (.int 0))) wNil))) wNil))) wNil)))
def N_turned_ring : List Str := ["ring"]
def w_turned_ring : WS := (sRet (w2 oAdd (wSlice (wVar 0) none (some (wC (.int 1)))) (wBack0 (wVar 0))))
def N_begun : List Str := ["ring", "at"]
def w_begun : WS := (sRet (w2 oAdd (wSlice (wVar 0) (some (wVar 1)) none) (wSlice (wVar 0) none (some (wVar 1)))))
def N__law_deal : List Str := ["_law_script", "_law_base", "_law_cells", "_law_mix", "_law_cell"]
def w__law_deal_0 : WS := (sRet (wNew (wCons (wRevN (wLc (wItems (wVar 2)) (gVar 4) (wBl (w2 (oCmpI fun i j => decide (j ≤ i)) (wVar 4) (w2 oPow (wC (.int 10)) (wC (.int 18))))) (wVar 4) [4])) (wCons (wVar 3) wNil))))
def w__law_deal_1 : WS := (sSet (w2 oMod (wN oInt (wCons (w2 oAdd (w2 oAdd (w2 oMul (wVar 3) (wC (.int 48271))) (w2 oMod (wVar 4) (wC (.int 2147483579)))) (wC (.int 61))) wNil)) (wC (.int 2147483647))) (gVar 3))
def w__law_deal_2 : WS := (sFor (wItems (wVar 2)) (gVar 4) w__law_deal_1)
def w__law_deal_3 : WS := (sSeq w__law_deal_2 w__law_deal_0)
def w__law_deal_4 : WS := (sSet (w2 oAdd (w2 oMul (wC (.int 40127)) (wVar 1)) (wC (.int 863))) (gVar 3))
def w__law_deal_5 : WS := (sSeq w__law_deal_4 w__law_deal_3)
def w__law_deal_6 : WS := (sSet (wLc (wItems (wSlice (wVar 0) none (some (wC (.int 63))))) (gVar 4) tYesD (wN oAbs (wCons (wN oInt (wCons (wVar 4) wNil)) wNil)) [4]) (gVar 2))
def w__law_deal_7 : WS := (sSeq w__law_deal_6 w__law_deal_5)
def w__law_deal : WS := w__law_deal_7
def N__law_any : List Str := ["_law_deal_here", "_law_bound", "_law_rest"]
def w__law_any_0 : WS := (sRet (w2 oMod (wN oInt (wCons (w2 oDiv (w2 oIdx (wVar 0) (wC (.int 1))) (wC (.int 64))) wNil)) (wVar 1)))
def w__law_any_1 : WS := (sSet (w2 oMod (wN oInt (wCons (w2 oAdd (w2 oMul (w2 oIdx (wVar 0) (wC (.int 1))) (wC (.int 48271))) (wC (.int 83))) wNil)) (wC (.int 2147483647))) (gSubD (wVar 0) (wC (.int 1))))
def w__law_any_2 : WS := (sSeq w__law_any_1 w__law_any_0)
def w__law_any_3 : WS := (sRet (w2 oMod (wVar 2) (wVar 1)))
def w__law_any_4 : WS := (sExpr (wApp (w2 oIdx (wVar 0) (wC (.int 0))) (w2 oDiv (wVar 2) (wVar 1))))
def w__law_any_5 : WS := (sSeq w__law_any_4 w__law_any_3)
def w__law_any_6 : WS := (sSet (wN oInt (wCons (wPop (w2 oIdx (wVar 0) (wC (.int 0)))) wNil)) (gVar 2))
def w__law_any_7 : WS := (sSeq w__law_any_6 w__law_any_5)
def w__law_any_8 : WS := (sIf (wBl (w2 oNe (w2 oIdx (wVar 0) (wC (.int 0))) (wLst wNil))) w__law_any_7 sSkip)
def w__law_any_9 : WS := (sSeq w__law_any_8 w__law_any_2)
def w__law_any_10 : WS := (sExpr (wPop (w2 oIdx (wVar 0) (wC (.int 0)))))
def w__law_any_11 : WS := (sWhile (wAndB (wBl (w2 oNe (w2 oIdx (wVar 0) (wC (.int 0))) (wLst wNil))) (wBl (w2 oEq (w2 oIdx (w2 oIdx (wVar 0) (wC (.int 0))) (w1 oNeg (wC (.int 1)))) (wC (.int 0))))) w__law_any_10)
def w__law_any_12 : WS := (sSeq w__law_any_11 w__law_any_9)
def w__law_any : WS := w__law_any_12
def N__law_put : List Str := ["_law_ring_here", "_law_rule", "_law_found", "_law_a", "_law_b", "_law_c", "_law_d", "_law_right", "_law_up", "_law_x", "_law_y"]
def w__law_put_0 : WS := (sRet (wN oTuple (wCons (wIf (wBl (w2 (oCmpI fun i j => decide (j < i)) (w2 oSub (w2 oMul (wVar 3) (wVar 6)) (w2 oMul (wVar 4) (wVar 5))) (wC (.int 0)))) (wVar 2) (wRev (wVar 2))) wNil)))
def w__law_put_1 : WS := (sSet (wLc (wItems (wVar 0)) (gTupD 2 (gConsD (gVar 9) (gConsD (gVar 10) gNilD))) tYesD (wTup (wCons (w2 oAdd (w2 oAdd (w2 oMul (wVar 3) (wVar 9)) (w2 oMul (wVar 4) (wVar 10))) (wVar 7)) (wCons (w2 oAdd (w2 oAdd (w2 oMul (wVar 5) (wVar 9)) (w2 oMul (wVar 6) (wVar 10))) (wVar 8)) wNil))) [9, 10]) (gVar 2))
def w__law_put_2 : WS := (sSeq w__law_put_1 w__law_put_0)
def w__law_put_3 : WS := (sSet (wVar 1) (gTupD 6 (gConsD (gVar 3) (gConsD (gVar 4) (gConsD (gVar 5) (gConsD (gVar 6) (gConsD (gVar 7) (gConsD (gVar 8) gNilD))))))))
def w__law_put_4 : WS := (sSeq w__law_put_3 w__law_put_2)
def w__law_put : WS := w__law_put_4
def N__law_area : List Str := ["_law_ring_here", "_law_spot", "_law_found", "_law_at", "_law_a", "_law_b"]
def w__law_area_0 : WS := (sRet (wVar 2))
def w__law_area_1 : WS := (sSet (w2 oSub (w2 oAdd (wVar 2) (w2 oMul (w2 oSub (w2 oIdx (wVar 4) (wC (.int 0))) (w2 oIdx (wVar 1) (wC (.int 0)))) (w2 oSub (w2 oIdx (wVar 5) (wC (.int 1))) (w2 oIdx (wVar 1) (wC (.int 1)))))) (w2 oMul (w2 oSub (w2 oIdx (wVar 4) (wC (.int 1))) (w2 oIdx (wVar 1) (wC (.int 1)))) (w2 oSub (w2 oIdx (wVar 5) (wC (.int 0))) (w2 oIdx (wVar 1) (wC (.int 0)))))) (gVar 2))
def w__law_area_2 : WS := (sPar2 4 5 (wCons (w2 oIdx (wVar 0) (w2 oSub (wVar 3) (wC (.int 1)))) (wCons (w2 oIdx (wVar 0) (wVar 3)) wNil)))
def w__law_area_3 : WS := (sSeq w__law_area_2 w__law_area_1)
def w__law_area_4 : WS := (sFor (wRange1 (wCons (wN oLen (wCons (wVar 0) wNil)) wNil)) (gVar 3) w__law_area_3)
def w__law_area_5 : WS := (sSeq w__law_area_4 w__law_area_0)
def w__law_area_6 : WS := (sSet (wC (.int 0)) (gVar 2))
def w__law_area_7 : WS := (sSeq w__law_area_6 w__law_area_5)
def w__law_area : WS := w__law_area_7
def N__law_straight : List Str := ["_law_ring_here", "_law_found", "_law_at", "_law_a", "_law_b", "_law_c"]
def w__law_straight_0 : WS := (sRet (wN oTuple (wCons (w2 oAdd (wSlice (wVar 1) (some (wVar 2)) none) (wSlice (wVar 1) none (some (wVar 2)))) wNil)))
def w__law_straight_1 : WS := (sSet (wIndex (wVar 1) (wN oMin (wCons (wVar 1) wNil))) (gVar 2))
def w__law_straight_2 : WS := (sSeq w__law_straight_1 w__law_straight_0)
def w__law_straight_3 : WS := (sExpr (wApp (wVar 1) (wVar 4)))
def w__law_straight_4 : WS := (sIf (wBl (w2 oNe (w2 oMul (w2 oSub (w2 oIdx (wVar 4) (wC (.int 0))) (w2 oIdx (wVar 3) (wC (.int 0)))) (w2 oSub (w2 oIdx (wVar 5) (wC (.int 1))) (w2 oIdx (wVar 4) (wC (.int 1))))) (w2 oMul (w2 oSub (w2 oIdx (wVar 4) (wC (.int 1))) (w2 oIdx (wVar 3) (wC (.int 1)))) (w2 oSub (w2 oIdx (wVar 5) (wC (.int 0))) (w2 oIdx (wVar 4) (wC (.int 0))))))) w__law_straight_3 sSkip)
def w__law_straight_5 : WS := (sPar3 3 4 5 (wCons (w2 oIdx (wVar 0) (w2 oSub (wVar 2) (wC (.int 1)))) (wCons (w2 oIdx (wVar 0) (wVar 2)) (wCons (w2 oIdx (wVar 0) (w2 oMod (wN oInt (wCons (w2 oAdd (wVar 2) (wC (.int 1))) wNil)) (wN oLen (wCons (wVar 0) wNil)))) wNil))))
def w__law_straight_6 : WS := (sSeq w__law_straight_5 w__law_straight_4)
def w__law_straight_7 : WS := (sFor (wRange1 (wCons (wN oLen (wCons (wVar 0) wNil)) wNil)) (gVar 2) w__law_straight_6)
def w__law_straight_8 : WS := (sSeq w__law_straight_7 w__law_straight_2)
def w__law_straight_9 : WS := (sSet (wNew wNil) (gVar 1))
def w__law_straight_10 : WS := (sSeq w__law_straight_9 w__law_straight_8)
def w__law_straight : WS := w__law_straight_10
def N_whole_turn : List Str := ["a", "b", "c", "area"]
def w_whole_turn_0 : WS := (sRet (wIf (wBl (w2 (oCmpI fun i j => decide (j < i)) (wVar 3) (wC (.int 0)))) (wC (.int 1)) (w1 oNeg (wC (.int 1)))))
def w_whole_turn_1 : WS := (sRet (wC (.int 0)))
def w_whole_turn_2 : WS := (sIf (wBl (w2 oEq (wVar 3) (wC (.int 0)))) w_whole_turn_1 sSkip)
def w_whole_turn_3 : WS := (sSeq w_whole_turn_2 w_whole_turn_0)
def w_whole_turn_4 : WS := (sSet (wCall c_whole_area [] (wCons (wVar 0) (wCons (wVar 1) (wCons (wVar 2) wNil))) wNil) (gVar 3))
def w_whole_turn_5 : WS := (sSeq w_whole_turn_4 w_whole_turn_3)
def w_whole_turn : WS := w_whole_turn_5
def N_whole_on : List Str := ["a", "b", "p"]
def w_whole_on_0 : WS := (sRet (w2 (oCmpI fun i j => decide (i ≤ j)) (w2 oAdd (w2 oMul (w2 oSub (w2 oIdx (wVar 0) (wC (.int 0))) (w2 oIdx (wVar 2) (wC (.int 0)))) (w2 oSub (w2 oIdx (wVar 1) (wC (.int 0))) (w2 oIdx (wVar 2) (wC (.int 0))))) (w2 oMul (w2 oSub (w2 oIdx (wVar 0) (wC (.int 1))) (w2 oIdx (wVar 2) (wC (.int 1)))) (w2 oSub (w2 oIdx (wVar 1) (wC (.int 1))) (w2 oIdx (wVar 2) (wC (.int 1)))))) (wC (.int 0))))
def w_whole_on_1 : WS := (sRet (wC (.bl false)))
def w_whole_on_2 : WS := (sIf (wBl (w2 oNe (wCall c_whole_area [] (wCons (wVar 0) (wCons (wVar 1) (wCons (wVar 2) wNil))) wNil) (wC (.int 0)))) w_whole_on_1 sSkip)
def w_whole_on_3 : WS := (sSeq w_whole_on_2 w_whole_on_0)
def w_whole_on : WS := w_whole_on_3
def N_is_corner : List Str := ["value"]
def w_is_corner_0 : WS := (sRet (wAndV (w2 (oCmpI fun i j => decide (i ≤ j)) (wN oAbs (wCons (w2 oIdx (wVar 0) (wC (.int 0))) wNil)) (wC k_FARTHEST)) (w2 (oCmpI fun i j => decide (i ≤ j)) (wN oAbs (wCons (w2 oIdx (wVar 0) (wC (.int 1))) wNil)) (wC k_FARTHEST))))
def w_is_corner_1 : WS := (sRet (wC (.bl false)))
def w_is_corner_2 : WS := (sIf (wOrB (wNotB (wTru (wCall c_is_tuple_of [] (wCons (wVar 0) (wCons (wC (.int 2)) wNil)) wNil))) (wOrB (wNotB (wTru (wCall c_is_integer [] (wCons (w2 oIdx (wVar 0) (wC (.int 0))) wNil) wNil))) (wNotB (wTru (wCall c_is_integer [] (wCons (w2 oIdx (wVar 0) (wC (.int 1))) wNil) wNil))))) w_is_corner_1 sSkip)
def w_is_corner_3 : WS := (sSeq w_is_corner_2 w_is_corner_0)
def w_is_corner : WS := w_is_corner_3
def N_ring_area : List Str := ["ring", "a", "b"]
def w_ring_area : WS := (sRet (wN oSum (wCons (wLc (wItems (wCall c_ring_sides [] (wCons (wVar 0) wNil) wNil)) (gTupD 2 (gConsD (gVar 1) (gConsD (gVar 2) gNilD))) tYesD (w2 oSub (w2 oMul (w2 oIdx (wVar 1) (wC (.int 0))) (w2 oIdx (wVar 2) (wC (.int 1)))) (w2 oMul (w2 oIdx (wVar 1) (wC (.int 1))) (w2 oIdx (wVar 2) (wC (.int 0))))) [1, 2]) wNil)))
def N_straightened : List Str := ["ring", "found", "at", "corner"]
def w_straightened_0 : WS := (sRet (wCall c_begun [] (wCons (wN oTuple (wCons (wVar 1) wNil)) (wCons (wIndex (wVar 1) (wN oMin (wCons (wVar 1) wNil))) wNil)) wNil))
def w_straightened_1 : WS := (sExpr (wApp (wVar 1) (wVar 3)))
def w_straightened_2 : WS := (sIf (wBl (w2 oNe (wCall c_whole_area [] (wCons (w2 oIdx (wVar 0) (w2 oSub (wVar 2) (wC (.int 1)))) (wCons (wVar 3) (wCons (w2 oIdx (wVar 0) (w2 oMod (w2 oAdd (wVar 2) (wC (.int 1))) (wN oLen (wCons (wVar 0) wNil)))) wNil))) wNil) (wC (.int 0)))) w_straightened_1 sSkip)
def w_straightened_3 : WS := (sFor (wEnum (wCons (wVar 0) wNil)) (gTupD 2 (gConsD (gVar 2) (gConsD (gVar 3) gNilD))) w_straightened_2)
def w_straightened_4 : WS := (sSeq w_straightened_3 w_straightened_0)
def w_straightened_5 : WS := (sSet (wNew wNil) (gVar 1))
def w_straightened_6 : WS := (sSeq w_straightened_5 w_straightened_4)
def w_straightened : WS := w_straightened_6
def N__law_of : List Str := ["_law_deal_here", "_law_some"]
def w__law_of : WS := (sRet (w2 oIdx (wVar 1) (wCall c__law_any [] (wCons (wVar 0) (wCons (wN oLen (wCons (wVar 1) wNil)) wNil)) wNil)))
def N__law_star : List Str := ["_law_deal_here", "_law_centre", "_law_most", "_law_each", "_law_ways", "_law_places", "_law_quarter", "_law_found", "_law_at", "_law_some", "_law_far", "_law_turn", "_law_right", "_law_up"]
def w__law_star_0 : WS := (sRet (wN oTuple (wCons (wVar 7) wNil)))
def w__law_star_1 : WS := (sExpr (wApp (wVar 7) (wTup (wCons (w2 oAdd (w2 oIdx (wVar 1) (wC (.int 0))) (w2 oMul (wVar 10) (w2 oIdx (w2 oIdx (wVar 4) (wVar 8)) (wC (.int 0))))) (wCons (w2 oAdd (w2 oIdx (wVar 1) (wC (.int 1))) (w2 oMul (wVar 10) (w2 oIdx (w2 oIdx (wVar 4) (wVar 8)) (wC (.int 1))))) wNil)))))
def w__law_star_2 : WS := (sSet (w2 oAdd (wC (.int 1)) (wCall c__law_any [] (wCons (wVar 0) (wCons (wVar 2) wNil)) wNil)) (gVar 10))
def w__law_star_3 : WS := (sSeq w__law_star_2 w__law_star_1)
def w__law_star_4 : WS := (sFor (wItems (wVar 5)) (gVar 8) w__law_star_3)
def w__law_star_5 : WS := (sSeq w__law_star_4 w__law_star_0)
def w__law_star_6 : WS := (sSet (wNew wNil) (gVar 7))
def w__law_star_7 : WS := (sSeq w__law_star_6 w__law_star_5)
def w__law_star_8 : WS := (sSet (w2 oAdd (wVar 5) (wLc (wRange2 (wCons (w2 oMul (wC (.int 4)) (wVar 6)) (wCons (w2 oAdd (w2 oMul (wC (.int 4)) (wVar 6)) (wC (.int 4))) wNil))) (gVar 8) (wBl (w2 oIn (wVar 8) (wVar 9))) (wVar 8) [8])) (gVar 5))
def w__law_star_9 : WS := (sSet (wLc (wRange1 (wCons (w2 oAdd (wC (.int 1)) (wCall c__law_any [] (wCons (wVar 0) (wCons (wVar 3) wNil)) wNil)) wNil)) (gVar 11) tYesD (w2 oAdd (w2 oMul (wC (.int 4)) (wVar 6)) (wCall c__law_any [] (wCons (wVar 0) (wCons (wC (.int 4)) wNil)) wNil)) [11]) (gVar 9))
def w__law_star_10 : WS := (sSeq w__law_star_9 w__law_star_8)
def w__law_star_11 : WS := (sFor (wRange1 (wCons (wC (.int 4)) wNil)) (gVar 6) w__law_star_10)
def w__law_star_12 : WS := (sSeq w__law_star_11 w__law_star_7)
def w__law_star_13 : WS := (sSet (wLst wNil) (gVar 5))
def w__law_star_14 : WS := (sSeq w__law_star_13 w__law_star_12)
def w__law_star_15 : WS := (sSet (w2 oAdd (wVar 4) (wLc (wItems (wVar 4)) (gTupD 2 (gConsD (gVar 12) (gConsD (gVar 13) gNilD))) tYesD (wTup (wCons (w2 oSub (wC (.int 0)) (wVar 12)) (wCons (w2 oSub (wC (.int 0)) (wVar 13)) wNil))) [12, 13])) (gVar 4))
def w__law_star_16 : WS := (sSeq w__law_star_15 w__law_star_14)
def w__law_star_17 : WS := (sSet (wLst (wCons (wTup (wCons (wC (.int 2)) (wCons (wC (.int 0)) wNil))) (wCons (wTup (wCons (wC (.int 2)) (wCons (wC (.int 1)) wNil))) (wCons (wTup (wCons (wC (.int 2)) (wCons (wC (.int 2)) wNil))) (wCons (wTup (wCons (wC (.int 1)) (wCons (wC (.int 2)) wNil))) (wCons (wTup (wCons (wC (.int 0)) (wCons (wC (.int 2)) wNil))) (wCons (wTup (wCons (w1 oNeg (wC (.int 1))) (wCons (wC (.int 2)) wNil))) (wCons (wTup (wCons (w1 oNeg (wC (.int 2))) (wCons (wC (.int 2)) wNil))) (wCons (wTup (wCons (w1 oNeg (wC (.int 2))) (wCons (wC (.int 1)) wNil))) wNil))))))))) (gVar 4))
def w__law_star_18 : WS := (sSeq w__law_star_17 w__law_star_16)
def w__law_star : WS := w__law_star_18
def N__law_wave : List Str := ["_law_deal_here", "_law_many", "_law_low", "_law_high", "_law_at"]
def w__law_wave_0 : WS := (sRet (wN oTuple (wCons (w2 oAdd (w2 oAdd (w2 oAdd (wLst (wCons (wTup (wCons (wC (.int 0)) (wCons (wC (.int 0)) wNil))) wNil)) (wVar 2)) (wLst (wCons (wTup (wCons (w2 oMul (wC (.int 20)) (wVar 1)) (wCons (wC (.int 0)) wNil))) wNil))) (wRev (wVar 3))) wNil)))
def w__law_wave_1 : WS := (sSet (wLc (wRange2 (wCons (wC (.int 1)) (wCons (wVar 1) wNil))) (gVar 4) tYesD (wTup (wCons (w2 oMul (wC (.int 20)) (wVar 4)) (wCons (w2 oAdd (wC (.int 20)) (wCall c__law_any [] (wCons (wVar 0) (wCons (wC (.int 20)) wNil)) wNil)) wNil))) [4]) (gVar 3))
def w__law_wave_2 : WS := (sSeq w__law_wave_1 w__law_wave_0)
def w__law_wave_3 : WS := (sSet (wLc (wRange2 (wCons (wC (.int 1)) (wCons (wVar 1) wNil))) (gVar 4) tYesD (wTup (wCons (w2 oMul (wC (.int 20)) (wVar 4)) (wCons (w2 oSub (w1 oNeg (wC (.int 20))) (wCall c__law_any [] (wCons (wVar 0) (wCons (wC (.int 20)) wNil)) wNil)) wNil))) [4]) (gVar 2))
def w__law_wave_4 : WS := (sSeq w__law_wave_3 w__law_wave_2)
def w__law_wave : WS := w__law_wave_4
def N__law_more : List Str := ["_law_deal_here", "_law_ring_here", "_law_found", "_law_at", "_law_a", "_law_b"]
def w__law_more_0 : WS := (sRet (wN oTuple (wCons (w2 oAdd (wSlice (wVar 2) (some (wVar 3)) none) (wSlice (wVar 2) none (some (wVar 3)))) wNil)))
def w__law_more_1 : WS := (sSet (wCall c__law_any [] (wCons (wVar 0) (wCons (wN oLen (wCons (wVar 2) wNil)) wNil)) wNil) (gVar 3))
def w__law_more_2 : WS := (sSeq w__law_more_1 w__law_more_0)
def w__law_more_3 : WS := (sExpr (wApp (wVar 2) (wVar 5)))
def w__law_more_4 : WS := (sExpr (wApp (wVar 2) (wTup (wCons (w2 oDiv (w2 oAdd (w2 oIdx (wVar 4) (wC (.int 0))) (w2 oIdx (wVar 5) (wC (.int 0)))) (wC (.int 2))) (wCons (w2 oDiv (w2 oAdd (w2 oIdx (wVar 4) (wC (.int 1))) (w2 oIdx (wVar 5) (wC (.int 1)))) (wC (.int 2))) wNil)))))
def w__law_more_5 : WS := (sIf (wAndB (wBl (w2 oEq (w2 oMod (wN oInt (wCons (w2 oAdd (w2 oIdx (wVar 4) (wC (.int 0))) (w2 oIdx (wVar 5) (wC (.int 0)))) wNil)) (wC (.int 2))) (wC (.int 0)))) (wAndB (wBl (w2 oEq (w2 oMod (wN oInt (wCons (w2 oAdd (w2 oIdx (wVar 4) (wC (.int 1))) (w2 oIdx (wVar 5) (wC (.int 1)))) wNil)) (wC (.int 2))) (wC (.int 0)))) (wBl (w2 oEq (wCall c__law_any [] (wCons (wVar 0) (wCons (wC (.int 5)) wNil)) wNil) (wC (.int 0)))))) w__law_more_4 sSkip)
def w__law_more_6 : WS := (sSeq w__law_more_5 w__law_more_3)
def w__law_more_7 : WS := (sPar2 4 5 (wCons (w2 oIdx (wVar 1) (w2 oSub (wVar 3) (wC (.int 1)))) (wCons (w2 oIdx (wVar 1) (wVar 3)) wNil)))
def w__law_more_8 : WS := (sSeq w__law_more_7 w__law_more_6)
def w__law_more_9 : WS := (sFor (wRange1 (wCons (wN oLen (wCons (wVar 1) wNil)) wNil)) (gVar 3) w__law_more_8)
def w__law_more_10 : WS := (sSeq w__law_more_9 w__law_more_2)
def w__law_more_11 : WS := (sSet (wNew wNil) (gVar 2))
def w__law_more_12 : WS := (sSeq w__law_more_11 w__law_more_10)
def w__law_more : WS := w__law_more_12
def N_whole_crosses : List Str := ["a", "b", "c", "d"]
def w_whole_crosses_0 : WS := (sRet (w2 (oCmpI fun i j => decide (i < j)) (w2 oMul (wCall c_whole_turn [] (wCons (wVar 2) (wCons (wVar 3) (wCons (wVar 0) wNil))) wNil) (wCall c_whole_turn [] (wCons (wVar 2) (wCons (wVar 3) (wCons (wVar 1) wNil))) wNil)) (wC (.int 0))))
def w_whole_crosses_1 : WS := (sRet (wC (.bl false)))
def w_whole_crosses_2 : WS := (sIf (wBl (w2 (oCmpI fun i j => decide (j ≤ i)) (w2 oMul (wCall c_whole_turn [] (wCons (wVar 0) (wCons (wVar 1) (wCons (wVar 2) wNil))) wNil) (wCall c_whole_turn [] (wCons (wVar 0) (wCons (wVar 1) (wCons (wVar 3) wNil))) wNil)) (wC (.int 0)))) w_whole_crosses_1 sSkip)
def w_whole_crosses_3 : WS := (sSeq w_whole_crosses_2 w_whole_crosses_0)
def w_whole_crosses : WS := w_whole_crosses_3
def N_turns_back : List Str := ["a", "b", "c"]
def w_turns_back : WS := (sRet (wAndV (w2 oEq (wCall c_whole_area [] (wCons (wVar 0) (wCons (wVar 1) (wCons (wVar 2) wNil))) wNil) (wC (.int 0))) (wNotV (wCall c_whole_on [] (wCons (wVar 0) (wCons (wVar 2) (wCons (wVar 1) wNil))) wNil))))
def N__law_map : List Str := ["_law_deal_here", "_law_menu"]
def w__law_map_0 : WS := (sRet (w2 oAdd (wCall c__law_of [] (wCons (wVar 0) (wCons (wVar 1) wNil)) wNil) (wTup (wCons (w2 oSub (wCall c__law_any [] (wCons (wVar 0) (wCons (wC (.int 101)) wNil)) wNil) (wC (.int 50))) (wCons (w2 oSub (wCall c__law_any [] (wCons (wVar 0) (wCons (wC (.int 101)) wNil)) wNil) (wC (.int 50))) wNil)))))
def w__law_map_1 : WS := (sSet (wLst (wCons (wTup (wCons (wC (.int 1)) (wCons (wC (.int 0)) (wCons (wC (.int 0)) (wCons (wC (.int 1)) wNil))))) (wCons (wTup (wCons (wC (.int 1)) (wCons (wC (.int 1)) (wCons (wC (.int 0)) (wCons (wC (.int 1)) wNil))))) (wCons (wTup (wCons (wC (.int 1)) (wCons (wC (.int 0)) (wCons (wC (.int 1)) (wCons (wC (.int 1)) wNil))))) (wCons (wTup (wCons (wC (.int 0)) (wCons (w1 oNeg (wC (.int 1))) (wCons (wC (.int 1)) (wCons (wC (.int 0)) wNil))))) (wCons (wTup (wCons (w1 oNeg (wC (.int 1))) (wCons (wC (.int 0)) (wCons (wC (.int 0)) (wCons (w1 oNeg (wC (.int 1))) wNil))))) (wCons (wTup (wCons (wC (.int 2)) (wCons (wC (.int 1)) (wCons (wC (.int 1)) (wCons (wC (.int 1)) wNil))))) (wCons (wTup (wCons (wC (.int 0)) (wCons (wC (.int 1)) (wCons (wC (.int 1)) (wCons (wC (.int 0)) wNil))))) (wCons (wTup (wCons (wC (.int 1)) (wCons (wC (.int 0)) (wCons (wC (.int 0)) (wCons (w1 oNeg (wC (.int 1))) wNil))))) wNil))))))))) (gVar 1))
def w__law_map_2 : WS := (sSeq w__law_map_1 w__law_map_0)
def w__law_map : WS := w__law_map_2
def N_sides_meet : List Str := ["one", "other", "a", "b", "c", "d"]
def w_sides_meet_0 : WS := (sRet (wOrV (wCall c_whole_on [] (wCons (wVar 4) (wCons (wVar 5) (wCons (wVar 2) wNil))) wNil) (wCall c_whole_on [] (wCons (wVar 4) (wCons (wVar 5) (wCons (wVar 3) wNil))) wNil)))
def w_sides_meet_1 : WS := (sRet (wC (.bl true)))
def w_sides_meet_2 : WS := (sIf (wOrB (wTru (wCall c_whole_crosses [] (wCons (wVar 2) (wCons (wVar 3) (wCons (wVar 4) (wCons (wVar 5) wNil)))) wNil)) (wOrB (wTru (wCall c_whole_on [] (wCons (wVar 2) (wCons (wVar 3) (wCons (wVar 4) wNil))) wNil)) (wTru (wCall c_whole_on [] (wCons (wVar 2) (wCons (wVar 3) (wCons (wVar 5) wNil))) wNil)))) w_sides_meet_1 sSkip)
def w_sides_meet_3 : WS := (sSeq w_sides_meet_2 w_sides_meet_0)
def w_sides_meet_4 : WS := (sSet (wVar 1) (gTupD 2 (gConsD (gVar 4) (gConsD (gVar 5) gNilD))))
def w_sides_meet_5 : WS := (sSeq w_sides_meet_4 w_sides_meet_3)
def w_sides_meet_6 : WS := (sSet (wVar 0) (gTupD 2 (gConsD (gVar 2) (gConsD (gVar 3) gNilD))))
def w_sides_meet_7 : WS := (sSeq w_sides_meet_6 w_sides_meet_5)
def w_sides_meet : WS := w_sides_meet_7
def N__law_ring : List Str := ["_law_deal_here", "_law_ring_here"]
def w__law_ring_0 : WS := (sRet (wCall c__law_more [] (wCons (wVar 0) (wCons (wCall c__law_put [] (wCons (wVar 1) (wCons (wCall c__law_map [] (wCons (wVar 0) wNil) wNil) wNil)) wNil) wNil)) wNil))
def w__law_ring_1 : WS := (sSet (wIf (wBl (w2 oEq (wCall c__law_any [] (wCons (wVar 0) (wCons (wC (.int 2)) wNil)) wNil) (wC (.int 0)))) (wCall c__law_star [] (wCons (wVar 0) (wCons (wTup (wCons (wC (.int 0)) (wCons (wC (.int 0)) wNil))) (wCons (wC (.int 9)) (wCons (wC (.int 3)) wNil)))) wNil) (wCall c__law_wave [] (wCons (wVar 0) (wCons (w2 oAdd (wC (.int 2)) (wCall c__law_any [] (wCons (wVar 0) (wCons (wC (.int 3)) wNil)) wNil)) wNil)) wNil)) (gVar 1))
def w__law_ring_2 : WS := (sSeq w__law_ring_1 w__law_ring_0)
def w__law_ring : WS := w__law_ring_2
def N_crosses_itself : List Str := ["ring", "at", "sides", "many", "other"]
def w_crosses_itself_0 : WS := (sRet (wC (.bl false)))
def w_crosses_itself_1 : WS := (sRet (wC (.bl true)))
def w_crosses_itself_2 : WS := (sIf (wAndB (wBl (w2 (oCmpI fun i j => decide (i < j)) (w2 oSub (wVar 4) (wVar 1)) (w2 oSub (wVar 3) (wC (.int 1))))) (wTru (wCall c_sides_meet [] (wCons (w2 oIdx (wVar 2) (wVar 1)) (wCons (w2 oIdx (wVar 2) (wVar 4)) wNil)) wNil))) w_crosses_itself_1 sSkip)
def w_crosses_itself_3 : WS := (sFor (wRange2 (wCons (w2 oAdd (wVar 1) (wC (.int 2))) (wCons (wVar 3) wNil))) (gVar 4) w_crosses_itself_2)
def w_crosses_itself_4 : WS := (sRet (wC (.bl true)))
def w_crosses_itself_5 : WS := (sIf (wTru (wCall c_turns_back [] (wCons (w2 oIdx (wVar 0) (w2 oSub (wVar 1) (wC (.int 2)))) (wCons (w2 oIdx (wVar 0) (w2 oSub (wVar 1) (wC (.int 1)))) (wCons (w2 oIdx (wVar 0) (wVar 1)) wNil))) wNil)) w_crosses_itself_4 sSkip)
def w_crosses_itself_6 : WS := (sSeq w_crosses_itself_5 w_crosses_itself_3)
def w_crosses_itself_7 : WS := (sFor (wRange1 (wCons (wVar 3) wNil)) (gVar 1) w_crosses_itself_6)
def w_crosses_itself_8 : WS := (sSeq w_crosses_itself_7 w_crosses_itself_0)
def w_crosses_itself_9 : WS := (sPar2 2 3 (wCons (wCall c_ring_sides [] (wCons (wVar 0) wNil) wNil) (wCons (wN oLen (wCons (wVar 0) wNil)) wNil)))
def w_crosses_itself_10 : WS := (sSeq w_crosses_itself_9 w_crosses_itself_8)
def w_crosses_itself : WS := w_crosses_itself_10
def N_ring_fault : List Str := ["value", "at", "corner"]
def w_ring_fault_0 : WS := (sRet (wIf (wTru (wCall c_crosses_itself [] (wCons (wVar 0) wNil) wNil)) (wN oLen (wCons (wVar 0) wNil)) (wC .non)))
def w_ring_fault_1 : WS := (sRet (wVar 1))
def w_ring_fault_2 : WS := (sIf (wOrB (wNotB (wTru (wCall c_is_corner [] (wCons (wVar 2) wNil) wNil))) (wBl (w2 oIn (wVar 2) (wSlice (wVar 0) none (some (wVar 1)))))) w_ring_fault_1 sSkip)
def w_ring_fault_3 : WS := (sFor (wEnum (wCons (wVar 0) wNil)) (gTupD 2 (gConsD (gVar 1) (gConsD (gVar 2) gNilD))) w_ring_fault_2)
def w_ring_fault_4 : WS := (sSeq w_ring_fault_3 w_ring_fault_0)
def w_ring_fault_5 : WS := (sRet (w1 oNeg (wC (.int 1))))
def w_ring_fault_6 : WS := (sIf (wOrB (wNotB (wTru (wIsT .tuple (wVar 0)))) (wBl (w2 (oCmpI fun i j => decide (i < j)) (wN oLen (wCons (wVar 0) wNil)) (wC k_FEWEST)))) w_ring_fault_5 sSkip)
def w_ring_fault_7 : WS := (sSeq w_ring_fault_6 w_ring_fault_4)
def w_ring_fault : WS := w_ring_fault_7
def N_is_ring : List Str := ["value"]
def w_is_ring : WS := (sRet (w2 oIs (wCall c_ring_fault [] (wCons (wVar 0) wNil) wNil) (wC .non)))
def N_law : List Str := ["_law_script", "_law_deal_here", "_law_turn", "_law_due", "_law_back", "_law_at", "_law_later", "_law_plain", "_law_ring_here", "_law_spot"]
def w_law_0 : WS := (sRet (wC (.bl true)))
def w_law_1 : WS := (sRet (wC (.bl false)))
def w_law_2 : WS := (sIf (wOrB (wBl (w2 oNe (wN oRepr (wCons (wCall c_straightened [] (wCons (wVar 4) wNil) wNil) wNil)) (wN oRepr (wCons (wCall c__law_straight [] (wCons (wVar 4) wNil) wNil) wNil)))) (wBl (w2 oNe (wCall c_ring_area [] (wCons (wCall c_straightened [] (wCons (wVar 4) wNil) wNil) wNil) wNil) (w2 oSub (wC (.int 0)) (wVar 3))))) w_law_1 sSkip)
def w_law_3 : WS := (sRet (wC (.bl false)))
def w_law_4 : WS := (sIf (wOrB (wBl (w2 oNe (wCall c_ring_area [] (wCons (wVar 7) wNil) wNil) (wVar 3))) (wOrB (wBl (w2 oNe (wCall c_ring_area [] (wCons (wVar 6) wNil) wNil) (wVar 3))) (wBl (w2 oIsNot (wCall c_is_ring [] (wCons (wVar 7) wNil) wNil) (wC (.bl true)))))) w_law_3 sSkip)
def w_law_5 : WS := (sSeq w_law_4 w_law_2)
def w_law_6 : WS := (sRet (wC (.bl false)))
def w_law_7 : WS := (sIf (wOrB (wBl (w2 oNe (wN oRepr (wCons (wCall c_straightened [] (wCons (wVar 8) wNil) wNil) wNil)) (wN oRepr (wCons (wVar 7) wNil)))) (wOrB (wBl (w2 oNe (wCall c_straightened [0] wNil (wCons (wVar 6) wNil)) (wVar 7))) (wBl (w2 oNe (wCall c_straightened [] (wCons (wVar 7) wNil) wNil) (wVar 7))))) w_law_6 sSkip)
def w_law_8 : WS := (sSeq w_law_7 w_law_5)
def w_law_9 : WS := (sSet (wCall c__law_straight [] (wCons (wVar 8) wNil) wNil) (gVar 7))
def w_law_10 : WS := (sSeq w_law_9 w_law_8)
def w_law_11 : WS := (sRet (wC (.bl false)))
def w_law_12 : WS := (sIf (wOrB (wBl (w2 oNe (wN oRepr (wCons (wCall c_begun [] (wCons (wVar 8) (wCons (wVar 5) wNil)) wNil) wNil)) (wN oRepr (wCons (wVar 6) wNil)))) (wBl (w2 oNe (wCall c_begun [1, 0] wNil (wCons (wIf (wBl (w2 (oCmpI fun i j => decide (j < i)) (wVar 5) (wC (.int 0)))) (w2 oSub (wN oLen (wCons (wVar 8) wNil)) (wVar 5)) (wC (.int 0))) (wCons (wVar 6) wNil))) (wVar 8)))) w_law_11 sSkip)
def w_law_13 : WS := (sSeq w_law_12 w_law_10)
def w_law_14 : WS := (sSet (w2 oAdd (wSlice (wVar 8) (some (wVar 5)) none) (wSlice (wVar 8) none (some (wVar 5)))) (gVar 6))
def w_law_15 : WS := (sSeq w_law_14 w_law_13)
def w_law_16 : WS := (sSet (wCall c__law_any [] (wCons (wVar 1) (wCons (wN oLen (wCons (wVar 8) wNil)) wNil)) wNil) (gVar 5))
def w_law_17 : WS := (sSeq w_law_16 w_law_15)
def w_law_18 : WS := (sRet (wC (.bl false)))
def w_law_19 : WS := (sIf (wOrB (wBl (w2 oNe (wN oRepr (wCons (wCall c_turned_ring [] (wCons (wVar 8) wNil) wNil) wNil)) (wN oRepr (wCons (wVar 4) wNil)))) (wOrB (wBl (w2 oNe (wCall c_turned_ring [0] wNil (wCons (wVar 4) wNil)) (wVar 8))) (wBl (w2 oNe (wCall c_ring_area [0] wNil (wCons (wVar 4) wNil)) (w2 oSub (wC (.int 0)) (wVar 3)))))) w_law_18 sSkip)
def w_law_20 : WS := (sSeq w_law_19 w_law_17)
def w_law_21 : WS := (sSet (w2 oAdd (wSlice (wVar 8) none (some (wC (.int 1)))) (wRev (wSlice (wVar 8) (some (wC (.int 1))) none))) (gVar 4))
def w_law_22 : WS := (sSeq w_law_21 w_law_20)
def w_law_23 : WS := (sRet (wC (.bl false)))
def w_law_24 : WS := (sIf (wOrB (wBl (w2 (oCmpI fun i j => decide (i ≤ j)) (wVar 3) (wC (.int 0)))) (wBl (w2 oNe (wN oRepr (wCons (wCall c_ring_area [] (wCons (wVar 8) wNil) wNil) wNil)) (wN oRepr (wCons (wVar 3) wNil))))) w_law_23 sSkip)
def w_law_25 : WS := (sSeq w_law_24 w_law_22)
def w_law_26 : WS := (sSet (wCall c__law_area [] (wCons (wVar 8) (wCons (wVar 9) wNil)) wNil) (gVar 3))
def w_law_27 : WS := (sSeq w_law_26 w_law_25)
def w_law_28 : WS := (sPar2 8 9 (wCons (wCall c__law_ring [] (wCons (wVar 1) wNil) wNil) (wCons (wTup (wCons (w2 oSub (wCall c__law_any [] (wCons (wVar 1) (wCons (wC (.int 200)) wNil)) wNil) (wC (.int 100))) (wCons (w2 oSub (wCall c__law_any [] (wCons (wVar 1) (wCons (wC (.int 200)) wNil)) wNil) (wC (.int 100))) wNil))) wNil)))
def w_law_29 : WS := (sSeq w_law_28 w_law_27)
def w_law_30 : WS := (sFor (wRange1 (wCons (wC (.int 4)) wNil)) (gVar 2) w_law_29)
def w_law_31 : WS := (sSeq w_law_30 w_law_0)
def w_law_32 : WS := (sSet (wCall c__law_deal [] (wCons (wVar 0) (wCons (wC (.int 10)) wNil)) wNil) (gVar 1))
def w_law_33 : WS := (sSeq w_law_32 w_law_31)
def w_law : WS := w_law_33
theorem does_whole_area : Does c_whole_area w_whole_area N_whole_area 3 := by
  rintro ds S P X ⟨a, b, c, rfl, ha, hb, hc, h⟩
  refine ⟨rfl, ?_⟩
  show w_whole_area _ _ [some (DI a), some (DI b), some (DI c)] S
  simp only [w_whole_area, xret, x2, v0, v1, v2, xc, iI0, iI1, omulI, osubI]
  exact ⟨(dif1 hb ha).1.cmul (dif1 hc ha).2 (by decide), (dif1 hb ha).2.cmul (dif1 hc ha).1 (by decide), S, Sub.refl _, h⟩
theorem wip4 {a b c d e : Option D} : wipeD [a, b, c, d, e] [4] = [a, b, c, d, none] := id rfl
theorem does__law_deal : Does c__law_deal w__law_deal N__law_deal 2 := by
  rintro ds S P X ⟨ns, base, rfl, q0, q1, hl, h⟩
  refine ⟨rfl, ?_⟩
  show w__law_deal_7 _ _ [some (D0 ns), some (.int base), none, none, none] S
  have l1 : (ns.map D.int).length ≤ 63 := by rw [List.length_map]; exact hl
  simp only [w__law_deal_7, w__law_deal_6, xseq, xset]
  refine lc_go (S1 := S) (ds := ns.map D.int) (fun d => match d with
    | .int i => some (.int (i.natAbs : Int))
    | _ => none) (fun Q hq => ?_) (le_line (by omega)) (fun p hp d hd acc R hR => ?_) ?_
  · simp only [xitems, xslice, v0, xc]
    rw [show ((63 : Int)) = ((63 : Nat) : Int) from rfl, oslice_all l1]
    exact hq
  · obtain ⟨i, _, rfl⟩ := List.mem_map.mp hd
    simp only [wip4, g4, xn, xcons, xnil, v4, ointI, oabsI, abs_nat]
    exact hR
  have ef : (ns.map D.int).filterMap (fun d => match d with
    | .int i => some (.int (i.natAbs : Int))
    | _ => none) = (ns.map fun i => (i.natAbs : Int)).map D.int := by
    rw [List.filterMap_map, List.map_map]
    exact List.filterMap_eq_map (f := fun i : Int => D.int (i.natAbs : Int)) ▸ rfl
  rw [ef]
  generalize hms : (ns.map fun i => (i.natAbs : Int)) = ms
  have hm0 : ∀ m ∈ ms, 0 ≤ m := fun m hm => by
    rw [← hms] at hm
    obtain ⟨i, _, rfl⟩ := List.mem_map.mp hm
    omega
  have hml : ms.length ≤ 63 := by rw [← hms, List.length_map]; exact hl
  simp only [g2, w__law_deal_5, w__law_deal_4, xseq, xset, x2, v1, xc, omulI, oaddI, g3, w__law_deal_3, w__law_deal_2, xfor, xitems, v2]
  have loop : ∀ (l : List Int), (∀ m ∈ l, 0 ≤ m) → ∀ (b : Int) (z : Option D), 0 ≤ b → b < 2147483647 → (∀ (c : Int) (z : Option D), 0 ≤ c → c < 2147483647 → w__law_deal_0 { nx := fun _ S' => shrP P .non S', rt := shrP P } (fun x _ S' => shrX X x S') [some (D0 ns), some (.int base), some (.lst (ms.map D.int)), some (.int c), z] S) →
      loopD (gVar 4) w__law_deal_1 { nx := fun e s => w__law_deal_0 { nx := fun _ S' => shrP P .non S', rt := shrP P } (fun x _ S' => shrX X x S') e s, rt := shrP P } (fun x _ S' => shrX X x S') (l.map D.int) [some (D0 ns), some (.int base), some (.lst (ms.map D.int)), some (.int b), z] S := by
    intro l
    induction l with
    | nil => intro _ b z b0 b1 hq; exact hq b z b0 b1
    | cons m l ih =>
      intro hm b z b0 b1 hq
      have hb1 : Bd 31 b := by unfold Bd; omega
      have hb2 : Bd 16 48271 := by unfold Bd; decide
      have t1 : (0 : Int) < 2147483647 := by decide
      have t2 : (0 : Int) < 2147483579 := by decide
      simp only [List.map_cons, xloop, g4, w__law_deal_1, xset, x2, xn, xcons, xnil, v3, v4, xc, omulI, oaddI, omodI, ointI, g3]
      exact ⟨hb1.cmul hb2 (by decide), t2, t1, ih (fun k hk => hm k (List.mem_cons_of_mem _ hk)) _ _ (Int.emod_nonneg _ (by decide)) (Int.emod_lt_of_pos _ t1) hq⟩
  refine ⟨Bd.cmul (m := 16) (n := 10) (by unfold Bd; decide) (by unfold Bd; have : (2 : Nat) ^ 10 = 1024 := (by decide); omega) (by decide), loop ms hm0 _ none (by omega) (by omega) fun c z c0 c1 => ?_⟩
  simp only [w__law_deal_0, xret, xnew, xcons, xrevN]
  refine lc_go (S1 := S) (ds := ms.map D.int) (fun d => match d with
    | .int i => if 1000000000000000000 ≤ i then some (.int i) else none
    | _ => none) (fun Q hq => ?_) (le_line (by rw [List.length_map]; omega)) (fun p hp d hd acc R hR => ?_) ?_
  · simp only [xitems, v2]
    exact hq
  · obtain ⟨i, _, rfl⟩ := List.mem_map.mp hd
    have p18 : (10 : Int) ^ (18 : Int).toNat = 1000000000000000000 := by decide
    simp only [wip4, g4, xbl, x2, v4, xc, opowI, p18, ocmpI]
    refine ⟨⟨by decide, by decide, by decide⟩, ?_⟩
    by_cases hi : 1000000000000000000 ≤ i
    · simp only [hi, if_true, decide_true] at hR ⊢
      exact hR
    · simp only [hi, if_false, decide_false, Bool.false_eq_true] at hR ⊢
      exact hR
  have ef2 : (ms.map D.int).filterMap (fun d => match d with
    | .int i => if 1000000000000000000 ≤ i then some (.int i) else none
    | _ => none) = (ms.filter fun i => decide (1000000000000000000 ≤ i)).map D.int := by
    clear loop ef h hml hms l1
    induction ms with
    | nil => rfl
    | cons m l ih =>
      have ih := ih fun k hk => hm0 k (List.mem_cons_of_mem _ hk)
      by_cases hi : 1000000000000000000 ≤ m
      · simp only [List.map_cons, List.filterMap_cons, List.filter_cons, hi, if_true, decide_true, ih]
      · simp only [List.map_cons, List.filterMap_cons, List.filter_cons, hi, if_false, decide_false, Bool.false_eq_true, ih]
  rw [ef2]
  show ∀ p, S p = none → _
  intro q hq
  simp only [v3, xnil]
  refine ⟨two_line, fun p hp => ?_⟩
  have npq : q ≠ p := fun z => by
    rw [z, sput_at] at hp
    cases hp
  have hp0 : S p = none := by rw [← hp, sput_off (Ne.symm npq)]
  have hfl := List.length_filter_le (fun i => decide (1000000000000000000 ≤ i)) ms
  refine ⟨_, Sub.refl _, h p q _ hp0 hq ⟨(ms.filter fun i => decide (1000000000000000000 ≤ i)).reverse, c, ?_⟩ ((Fr.refl S).putQ.putP)⟩
  exact ⟨sput_at, by rw [sput_off npq, sput_at, ← List.map_reverse], npq, by rw [List.length_reverse]; omega, fun n hn => hm0 n (List.mem_filter.mp (List.mem_reverse.mp hn)).1, c0, c1⟩
theorem any_while {E : EndD} {Y : XS} {p q : Addr} {b : Int} {S0 : Sto} {e1 e2 : Option D} (hnx : ∀ ns S, Dl S p q ns b → Fr p q S0 S → E.nx [some (.ref p), e1, e2] S) : ∀ (n : Nat) (ns : List Int) (S : Sto), ns.length ≤ n → Dl S p q ns b → Fr p q S0 S →
    whileD (wAndB (wBl (w2 oNe (w2 oIdx (wVar 0) (wC (.int 0))) (wLst wNil))) (wBl (w2 oEq (w2 oIdx (w2 oIdx (wVar 0) (wC (.int 0))) (w1 oNeg (wC (.int 1)))) (wC (.int 0))))) w__law_any_10 E Y (n + 1) [some (.ref p), e1, e2] S := by
  intro n
  induction n with
  | zero =>
    intro ns S hl h fr
    have e : ns = [] := List.length_eq_zero_iff.mp (by omega)
    subst e
    unfold whileD
    simp only [xandB, xbl, x2, v0, xc, idx_at0 h.sp, xlst, xnil, List.length_nil, Nat.zero_le, true_and, one_nil h.sq]
    exact hnx _ _ h fr
  | succ n ih =>
    intro ns S hl h fr
    unfold whileD
    simp only [xandB, xbl, x2, v0, xc, idx_at0 h.sp, xlst, xnil, List.length_nil, Nat.zero_le, true_and, one_nil h.sq]
    rcases List.eq_nil_or_concat ns with e | ⟨init, k, e⟩
    · subst e
      exact hnx _ _ h fr
    · have e : ns = init ++ [k] := by simpa using e
      subst e
      rw [if_pos (by simp)]
      simp only [x1, xc, onegI, idx_last h.sq, oeqI]
      by_cases hk : k = 0
      · rw [if_pos (decide_eq_true hk)]
        have hq : S q = some (.lst (init.map D.int ++ [.int k])) := by rw [h.sq, List.map_append]; rfl
        simp only [w__law_any_10, xexpr, xpop, x2, v0, xc, idx_at0 h.sp, pop_at hq]
        rw [List.length_append, List.length_singleton] at hl
        exact ih init _ (by omega) (h.putQ (by have := h.len; rw [List.length_append] at this; omega) fun m hm => h.nn m (List.mem_append_left _ hm)) fr.putQ
      · rw [if_neg (by simpa using hk)]
        exact hnx _ _ h fr
theorem does__law_any : Does c__law_any w__law_any N__law_any 2 := by
  rintro ds S P X ⟨p, q, k, rfl, ⟨ns, b, hd⟩, hp, hb, h⟩
  refine ⟨rfl, ?_⟩
  show w__law_any_12 _ _ [some (.ref p), some (.int k), none] S
  simp only [w__law_any_12, w__law_any_11, xseq]
  refine ⟨_, any_while (S0 := S) (fun ns S1 hd fr => ?_) _ ns S (Nat.le_refl _) hd (Fr.refl S)⟩
  simp only [w__law_any_9, w__law_any_8, xseq, xsif, xbl, x2, v0, xc, idx_at0 hd.sp, xlst, xnil, List.length_nil, Nat.zero_le, true_and, one_nil hd.sq]
  rcases List.eq_nil_or_concat ns with e | ⟨init, m, e⟩
  · subst e
    rw [if_neg (by simp)]
    have hb1 : Bd 31 b := by have := hd.lo; have := hd.hi; unfold Bd; omega
    have hb2 : Bd 16 48271 := by unfold Bd; decide
    have ht : (0 : Int) < 2147483647 := by decide
    have r0 := Int.emod_nonneg (b * 48271 + 83) (b := 2147483647) (by decide)
    have r1 := Int.emod_lt_of_pos (b * 48271 + 83) ht
    have hd2 := hd.putB r0 r1
    simp only [xskip, w__law_any_2, w__law_any_1, xseq, xset, x2, xn, xcons, xnil, v0, v1, xc, idx_at1 hd.sp, omulI, oaddI, ointI, omodI, xsub, set_at1 hd.sp, w__law_any_0, xret, idx_at1 hd2.sp, odivI]
    refine ⟨hb1.cmul hb2 (by decide), ht, ⟨by decide, by decide⟩, hp, _, Sub.refl _, h _ _ (Int.emod_nonneg _ (by omega)) (Int.emod_lt_of_pos _ hp) hd2.deal fr.putP⟩
  · have e : ns = init ++ [m] := by simpa using e
    subst e
    rw [if_pos (by simp)]
    have hq : S1 q = some (.lst (init.map D.int ++ [.int m])) := by rw [hd.sq, List.map_append]; rfl
    have hl : init.length + 1 ≤ 64 := by have := hd.len; rw [List.length_append, List.length_singleton] at this; exact this
    have m0 : 0 ≤ m := hd.nn m (by simp)
    have hd1 : Dl (sput S1 q (.lst (init.map D.int))) p q init b := hd.putQ (by omega) fun j hj => hd.nn j (List.mem_append_left _ hj)
    have hd2 : Dl (sput (sput S1 q (.lst (init.map D.int))) q (.lst ((init ++ [m / k]).map D.int))) p q (init ++ [m / k]) b := hd1.putQ (by rw [List.length_append, List.length_singleton]; exact hl) fun j hj => by
      rcases List.mem_append.mp hj with z | z
      · exact hd1.nn j z
      · rw [List.mem_singleton.mp z]; exact Int.ediv_nonneg m0 (by omega)
    simp only [w__law_any_7, w__law_any_6, xseq, xset, xn, xcons, xnil, xpop, x2, v0, v1, xc, idx_at0 hd.sp, pop_at hq, ointI, g2, w__law_any_5, w__law_any_4, xexpr, xapp, idx_at0 hd1.sp, isl hd1.sq, v2, odivI, app_at hd1.sq, w__law_any_3, xret, omodI, true_and]
    refine ⟨hb.cdiv hp (by decide), ?_, hp, _, Sub.refl _, h _ _ (Int.emod_nonneg _ (by omega)) (Int.emod_lt_of_pos _ hp) ?_ fr.putQ.putQ⟩
    · rw [List.length_map]; exact le_line (by omega)
    · have e2 : init.map D.int ++ [.int (m / k)] = (init ++ [m / k]).map D.int := by rw [List.map_append]; rfl
      rw [e2]
      exact hd2.deal
theorem does_whole_turn : Does c_whole_turn w_whole_turn N_whole_turn 3 := by
  rintro ds S P X ⟨a, b, c, rfl, ha, hb, hc, h⟩
  refine ⟨rfl, ?_⟩
  show w_whole_turn_5 _ _ [some (DI a), some (DI b), some (DI c), none] S
  simp only [w_whole_turn_5, w_whole_turn_4, xseq, xset, xcall, xcons, xnil, v0, v1, v2]
  refine k_war ha hb hc ?_
  simp only [g3, w_whole_turn_3, w_whole_turn_2, xseq, xsif, xbl, x2, v3, xc, oeqI]
  unfold sgi at h
  by_cases hz : war a b c = 0
  · rw [if_neg (by omega), if_pos hz] at h
    simp only [hz, decide_true, if_true, w_whole_turn_1, xret, xc]
    exact ⟨S, Sub.refl _, h⟩
  · simp only [hz, decide_false, Bool.false_eq_true, if_false, xskip, w_whole_turn_0, xret, xif, xbl, x2, x1, v3, xc, ocmpI, onegI]
    by_cases hp : 0 < war a b c
    · rw [if_pos hp] at h
      rw [if_pos (decide_eq_true hp)]
      exact ⟨S, Sub.refl _, h⟩
    · rw [if_neg hp, if_neg hz] at h
      rw [if_neg (by simpa using hp)]
      exact ⟨S, Sub.refl _, h⟩
theorem does_whole_on : Does c_whole_on w_whole_on N_whole_on 3 := by
  rintro ds S P X ⟨a, b, c, rfl, ha, hb, hc, h⟩
  refine ⟨rfl, ?_⟩
  show w_whole_on_3 _ _ [some (DI a), some (DI b), some (DI c)] S
  simp only [w_whole_on_3, w_whole_on_2, xseq, xsif, xbl, xcall, xcons, xnil, x2, v0, v1, v2, xc]
  refine k_war ha hb hc ?_
  simp only [oneI]
  unfold woB ldot at h
  by_cases hz : war a b c = 0
  · simp only [hz, decide_true, Bool.true_and] at h
    simp only [hz, decide_true, Bool.not_true, Bool.false_eq_true, if_false, xskip, w_whole_on_0, xret, x2, v0, v1, v2, xc, iI0, iI1, osubI, omulI, oaddI, ocmpI]
    exact ⟨(dif1 ha hc).1.cmul (dif1 hb hc).1 (by decide), (dif1 ha hc).2.cmul (dif1 hb hc).2 (by decide), S, Sub.refl _, h⟩
  · simp only [hz, decide_false, Bool.false_and] at h
    simp only [hz, decide_false, Bool.not_false, if_true, w_whole_on_1, xret, xc]
    exact ⟨S, Sub.refl _, h⟩
theorem does__law_of : Does c__law_of w__law_of N__law_of 2 := by
  rintro ds S P X ⟨p, q, es, rfl, hd, hne, hl, h⟩
  refine ⟨rfl, ?_⟩
  show w__law_of _ _ [some (.ref p), some (.lst es)] S
  have hpos : (0 : Int) < (es.length : Nat) := by have := List.length_pos_iff.mpr hne; omega
  have el : ∀ (S : Sto) (P : PD), oLen [.lst es] S P = P (.int (es.length : Nat)) S := fun S P => rfl
  simp only [w__law_of, xret, x2, v1, v0, xcall, xcons, xnil, xn, el]
  exact ⟨p, q, _, rfl, hd, hpos, bd_len hl, fun r S' h0 h1 hd' fr => idx_any h0 h1 fun d hm => ⟨S', Sub.refl _, h d hm S' hd' fr⟩⟩
theorem does_whole_crosses : Does c_whole_crosses w_whole_crosses N_whole_crosses 4 := by
  rintro ds S P X ⟨a, b, c, d, rfl, ha, hb, hc, hd, h⟩
  refine ⟨rfl, ?_⟩
  show w_whole_crosses_3 _ _ [some (DI a), some (DI b), some (DI c), some (DI d)] S
  simp only [w_whole_crosses_3, w_whole_crosses_2, xseq, xsif, xbl, xcall, xcons, xnil, x2, v0, v1, v2, v3, xc]
  refine k_wtu ha hb hc (k_wtu ha hb hd ?_)
  simp only [omulI, ocmpI]
  refine ⟨(bd_sgi _).cmul (bd_sgi _) (by decide), ?_⟩
  unfold wcB at h
  by_cases h1 : sgi (war a b c) * sgi (war a b d) < 0
  · have h2 : ¬ 0 ≤ sgi (war a b c) * sgi (war a b d) := by omega
    simp only [h1, decide_true, Bool.true_and] at h
    simp only [h2, decide_false, Bool.false_eq_true, if_false, xskip, w_whole_crosses_0, xret, xcall, xcons, xnil, x2, v0, v1, v2, v3, xc]
    exact k_wtu hc hd ha (k_wtu hc hd hb ⟨(bd_sgi _).cmul (bd_sgi _) (by decide), S, Sub.refl _, h⟩)
  · have h2 : 0 ≤ sgi (war a b c) * sgi (war a b d) := by omega
    simp only [h1, decide_false, Bool.false_and] at h
    simp only [h2, decide_true, if_true, w_whole_crosses_1, xret, xc]
    exact ⟨S, Sub.refl _, h⟩
theorem okT_nr {S : Sto} {d : D} (h : noref d = true) : okT S d := by cases d <;> first | trivial | cases h
theorem nr_tup {xs : List D} (h : noref (.tup xs) = true) : norefL xs = true := h
theorem nr_cons {x : D} {xs : List D} (h : norefL (x :: xs) = true) : noref x = true ∧ norefL xs = true := Bool.and_eq_true_iff.mp h
theorem iI0 {a : PT} {S : Sto} {P : PD} : oIdx (DI a) (.int 0) S P = P (.int a.1) S := PL.iI0
theorem k_itup {d : D} {n : Int} {S : Sto} {P : PD} {X : PX} (h : noref d = true) (k : P (.bl (isTupN n d)) S) : c_is_tuple_of [d, .int n] S P X := ⟨d, n, rfl, h, k⟩
theorem k_iint {d : D} {S : Sto} {P : PD} {X : PX} (h : noref d = true) (k : P (.bl (isIntD d)) S) : c_is_integer [d] S P X := ⟨d, rfl, h, k⟩
theorem isTup2 {d : D} : isTupN 2 d = true ↔ ∃ x y, d = .tup [x, y] := by
  constructor
  · intro h
    cases d with
    | tup ds =>
      have h : ((ds.length : Int) = 2) := of_decide_eq_true h
      match ds, h with
      | [x, y], _ => exact ⟨x, y, rfl⟩
      | [], h => simp at h
      | [_], h => simp at h
      | _ :: _ :: _ :: _, h => simp only [List.length_cons] at h; omega
    | _ => cases h
  · rintro ⟨x, y, rfl⟩; rfl
theorem isInt1 {d : D} : isIntD d = true ↔ ∃ a, d = .int a := by
  constructor
  · intro h
    cases d with
    | int a => exact ⟨a, rfl⟩
    | _ => cases h
  · rintro ⟨a, rfl⟩; rfl
theorem does_is_integer : Does c_is_integer w_is_integer N_is_integer 1 := by
  rintro ds S P X ⟨d, rfl, hn, h⟩
  refine ⟨rfl, ?_⟩
  show w_is_integer _ _ [some d] S
  simp only [w_is_integer, xret, xandV, xisT, xnotV, v0]
  refine ⟨okT_nr hn, ?_⟩
  cases d with
  | int a => exact ⟨trivial, S, Sub.refl _, h⟩
  | bl b => exact ⟨trivial, S, Sub.refl _, h⟩
  | ref a => cases hn
  | _ => exact ⟨S, Sub.refl _, h⟩
theorem does_is_tuple_of : Does c_is_tuple_of w_is_tuple_of N_is_tuple_of 2 := by
  rintro ds S P X ⟨d, n, rfl, hn, h⟩
  refine ⟨rfl, ?_⟩
  show w_is_tuple_of _ _ [some d, some (.int n)] S
  simp only [w_is_tuple_of, xret, xandV, xisT, v0]
  refine ⟨okT_nr hn, ?_⟩
  cases d with
  | tup xs =>
    have el : ∀ (S : Sto) (P : PD), oLen [.tup xs] S P = P (.int (xs.length : Nat)) S := fun S P => rfl
    simp only [isTy, if_true, x2, xn, xcons, xnil, v0, v1, el, oeqI]
    exact ⟨S, Sub.refl _, h⟩
  | ref a => cases hn
  | _ => exact ⟨S, Sub.refl _, h⟩
theorem does_is_corner : Does c_is_corner w_is_corner N_is_corner 1 := by
  rintro ds S P X ⟨d, rfl, hn, h⟩
  refine ⟨rfl, ?_⟩
  show w_is_corner_3 _ _ [some d] S
  simp only [w_is_corner_3, xseq, w_is_corner_2, xsif, xorB, xnotB, xtru, xcall, xcons, xnil, v0, xc]
  refine k_itup hn ?_
  by_cases ht : isTupN 2 d = true
  · obtain ⟨x, y, rfl⟩ := isTup2.mp ht
    obtain ⟨nx, n2⟩ := nr_cons (nr_tup hn)
    obtain ⟨ny, _⟩ := nr_cons n2
    simp only [ht, Bool.not_true, Bool.false_eq_true, if_false, x2, v0, xc, i0t, i1t]
    refine k_iint nx ?_
    by_cases hx : isIntD x = true
    · obtain ⟨a, rfl⟩ := isInt1.mp hx
      simp only [hx, Bool.not_true, Bool.false_eq_true, if_false]
      refine k_iint ny ?_
      by_cases hy : isIntD y = true
      · obtain ⟨b, rfl⟩ := isInt1.mp hy
        simp only [hy, Bool.not_true, Bool.false_eq_true, if_false, xskip, w_is_corner_0, xret, xandV, x2, xn, xcons, xnil, v0, xc, i0t, i1t, oabsI, k_FARTHEST, ocmpI]
        have e : (cor (.tup [.int a, .int b])).isSome = (decide ((if a < 0 then -a else a) ≤ 1000) && decide ((if b < 0 then -b else b) ≤ 1000)) := by
          rw [abs_nat, abs_nat]
          unfold cor
          by_cases h1 : a.natAbs ≤ 1000 <;> by_cases h2 : b.natAbs ≤ 1000 <;> simp [h1, h2] <;> omega
        rw [e] at h
        by_cases h1 : (if a < 0 then -a else a) ≤ 1000
        · simp only [h1, decide_true, if_true, Bool.true_and] at h ⊢
          exact ⟨S, Sub.refl _, h⟩
        · simp only [h1, decide_false, Bool.false_eq_true, if_false, Bool.false_and] at h ⊢
          exact ⟨S, Sub.refl _, h⟩
      · have hy' : isIntD y = false := by simpa using hy
        have e : cor (.tup [.int a, y]) = none := by cases y <;> first | rfl | cases hy'
        rw [e] at h
        simp only [hy', Bool.not_false, if_true, w_is_corner_1, xret, xc]
        exact ⟨S, Sub.refl _, h⟩
    · have hx' : isIntD x = false := by simpa using hx
      have e : cor (.tup [x, y]) = none := by cases x <;> first | rfl | cases hx'
      rw [e] at h
      simp only [hx', Bool.not_false, if_true, w_is_corner_1, xret, xc]
      exact ⟨S, Sub.refl _, h⟩
  · have ht' : isTupN 2 d = false := by simpa using ht
    have e : cor d = none := by
      unfold cor
      split
      · exact absurd (isTup2.mpr ⟨_, _, rfl⟩) ht
      · rfl
    rw [e] at h
    simp only [ht', Bool.not_false, if_true, w_is_corner_1, xret, xc]
    exact ⟨S, Sub.refl _, h⟩
theorem k_icor {d : D} {S : Sto} {P : PD} {X : PX} (h : noref d = true) (k : P (.bl (cor d).isSome) S) : c_is_corner [d] S P X := ⟨d, rfl, h, k⟩
theorem u14 {n : Nat} {x : PT} (h : BP 14 x) : BP 1000 x := h.mono (by decide)
theorem does_sides_meet : Does c_sides_meet w_sides_meet N_sides_meet 2 := by
  rintro ds S P X ⟨a, b, c, d, rfl, ha, hb, hc, hd, h⟩
  have ha := ha.mono (show 14 ≤ 1000 by decide)
  have hb := hb.mono (show 14 ≤ 1000 by decide)
  have hc := hc.mono (show 14 ≤ 1000 by decide)
  have hd := hd.mono (show 14 ≤ 1000 by decide)
  refine ⟨rfl, ?_⟩
  show w_sides_meet_7 _ _ [some (.tup [DI a, DI b]), some (.tup [DI c, DI d]), none, none, none, none] S
  simp only [w_sides_meet_7, xseq, w_sides_meet_6, xset, v0, g2p, List.set_cons_succ, List.set_cons_zero, w_sides_meet_5, w_sides_meet_4, v1, w_sides_meet_3, w_sides_meet_2, xsif, xorB, xtru, xcall, xcons, xnil, v2, v3, v4, v5]
  unfold smB at h
  refine k_wcr ha hb hc hd ?_
  by_cases h1 : wcB a b c d = true
  · simp only [h1, Bool.true_or, if_true, w_sides_meet_1, xret, xc] at h ⊢
    exact ⟨S, Sub.refl _, h⟩
  · have h1 : wcB a b c d = false := by simpa using h1
    simp only [h1, Bool.false_or, Bool.false_eq_true, if_false] at h ⊢
    refine k_won ha hb hc ?_
    by_cases h2 : woB a b c = true
    · simp only [h2, Bool.true_or, if_true, w_sides_meet_1, xret, xc] at h ⊢
      exact ⟨S, Sub.refl _, h⟩
    · have h2 : woB a b c = false := by simpa using h2
      simp only [h2, Bool.false_or, Bool.false_eq_true, if_false] at h ⊢
      refine k_won ha hb hd ?_
      by_cases h3 : woB a b d = true
      · simp only [h3, Bool.true_or, if_true, w_sides_meet_1, xret, xc] at h ⊢
        exact ⟨S, Sub.refl _, h⟩
      · have h3 : woB a b d = false := by simpa using h3
        simp only [h3, Bool.false_or, Bool.false_eq_true, if_false, xskip, w_sides_meet_0, xret, xorV, xcall, xcons, xnil, v2, v3, v4, v5] at h ⊢
        refine k_won hc hd ha ?_
        by_cases h4 : woB c d a = true
        · simp only [h4, Bool.true_or, if_true] at h ⊢
          exact ⟨S, Sub.refl _, h⟩
        · have h4 : woB c d a = false := by simpa using h4
          simp only [h4, Bool.false_or, Bool.false_eq_true, if_false] at h ⊢
          exact k_won hc hd hb ⟨S, Sub.refl _, h⟩
theorem does_turns_back : Does c_turns_back w_turns_back N_turns_back 3 := by
  rintro ds S P X ⟨a, b, c, rfl, ha, hb, hc, h⟩
  have ha := ha.mono (show 14 ≤ 1000 by decide)
  have hb := hb.mono (show 14 ≤ 1000 by decide)
  have hc := hc.mono (show 14 ≤ 1000 by decide)
  refine ⟨rfl, ?_⟩
  show w_turns_back _ _ [some (DI a), some (DI b), some (DI c)] S
  simp only [w_turns_back, xret, xandV, xnotV, x2, xcall, xcons, xnil, v0, v1, v2, xc]
  refine k_war ha hb hc ?_
  simp only [oeqI]
  unfold tbB at h
  by_cases h1 : war a b c = 0
  · simp only [h1, decide_true, if_true, Bool.true_and] at h ⊢
    exact k_won ha hc hb ⟨S, Sub.refl _, h⟩
  · simp only [h1, decide_false, Bool.false_eq_true, if_false, Bool.false_and] at h ⊢
    exact ⟨S, Sub.refl _, h⟩
theorem sq_zero {x : Int} (h : x * x = 0) : x = 0 := by
  rcases Int.mul_eq_zero.mp h with z | z <;> exact z
theorem pos_of {x : Int} (h : 0 ≤ x) (hn : 0 = x → False) : 0 < x := by
  rcases Int.lt_or_eq_of_le h with z | z
  · exact z
  · exact (hn z).elim
theorem sq_nn (x : Int) : 0 ≤ x * x := by
  rcases Int.le_total 0 x with h | h
  · exact Int.mul_nonneg h h
  · exact Int.mul_nonneg_of_nonpos_of_nonpos h h
/-! two sides: plain laws -/
theorem war_T (a b c d : PT) : war a b c = 0 - mT a b c d := by unfold war mT; grind
theorem war_TB (a b c d : PT) : war a b d = mB a b c d - mT a b c d := by unfold war mT mB; grind
theorem war_O (a b c d : PT) : war c d a = mO a b c d := by unfold war mO; grind
theorem war_OB (a b c d : PT) : war c d b = mO a b c d - mB a b c d := by unfold war mO mB; grind
theorem sgi_mul_neg (m n : Int) : sgi m * sgi n < 0 ↔ (0 < m ∧ n < 0) ∨ (m < 0 ∧ 0 < n) := by
  rcases sgi_cases m with ⟨a, b⟩ | ⟨a, b⟩ | ⟨a, b⟩ <;> rcases sgi_cases n with ⟨c, d⟩ | ⟨c, d⟩ | ⟨c, d⟩ <;> rw [b, d] <;> constructor <;> intro h <;> omega
theorem wcB_iff (a b c d : PT) : wcB a b c d = true ↔ (0 < mT a b c d ∧ mT a b c d < mB a b c d ∧ 0 < mO a b c d ∧ mO a b c d < mB a b c d) ∨ (mT a b c d < 0 ∧ mB a b c d < mT a b c d ∧ mO a b c d < 0 ∧ mB a b c d < mO a b c d) := by
  unfold wcB
  rw [Bool.and_eq_true, decide_eq_true_eq, decide_eq_true_eq, sgi_mul_neg, sgi_mul_neg, war_T a b c d, war_TB a b c d, war_O a b c d, war_OB a b c d]
  omega
/-- a point of both sides, as a mean of either's ends -/
def CM (a b c d : PT) : Prop := ∃ u v x y : Int, 0 ≤ u ∧ 0 ≤ v ∧ 0 ≤ x ∧ 0 ≤ y ∧ 0 < u + v ∧ u + v = x + y ∧ u * a.1 + v * b.1 = x * c.1 + y * d.1 ∧ u * a.2 + v * b.2 = x * c.2 + y * d.2
theorem CM.symm {a b c d : PT} (h : CM a b c d) : CM c d a b := by
  obtain ⟨u, v, x, y, h1, h2, h3, h4, h5, h6, h7, h8⟩ := h
  exact ⟨x, y, u, v, h3, h4, h1, h2, by omega, h6.symm, h7.symm, h8.symm⟩
theorem woB_iff (a b p : PT) : woB a b p = true ↔ war a b p = 0 ∧ (a.1 - p.1) * (b.1 - p.1) + (a.2 - p.2) * (b.2 - p.2) ≤ 0 := by
  unfold woB ldot
  rw [Bool.and_eq_true, decide_eq_true_eq, decide_eq_true_eq]
theorem cm_on {a b c d : PT} (h : woB a b c = true) : CM a b c d := by
  obtain ⟨h1, h2⟩ := (woB_iff _ _ _).mp h
  unfold war at h1
  by_cases hz : b = c
  · subst hz
    exact ⟨0, 1, 1, 0, by decide, by decide, by decide, by decide, by decide, by decide, by omega, by omega⟩
  · have hg : 0 < (b.1 - c.1) * (b.1 - c.1) + (b.2 - c.2) * (b.2 - c.2) := by
      have n1 := sq_nn (b.1 - c.1)
      have n2 := sq_nn (b.2 - c.2)
      refine pos_of (by omega) fun z => hz ?_
      have z1 : (b.1 - c.1) * (b.1 - c.1) = 0 := by omega
      have z2 : (b.2 - c.2) * (b.2 - c.2) = 0 := by omega
      have := sq_zero z1
      have := sq_zero z2
      exact Prod.ext (by omega) (by omega)
    refine ⟨(b.1 - c.1) * (b.1 - c.1) + (b.2 - c.2) * (b.2 - c.2), 0 - ((a.1 - c.1) * (b.1 - c.1) + (a.2 - c.2) * (b.2 - c.2)), _, 0, by omega, by omega, ?_, Int.le_refl _, by omega, (Int.add_zero _).symm, ?_, ?_⟩
    · omega
    · grind
    · grind
theorem cm_crs {a b c d : PT} (h : wcB a b c d = true) : CM a b c d := by
  rcases (wcB_iff a b c d).mp h with ⟨h1, h2, h3, h4⟩ | ⟨h1, h2, h3, h4⟩
  · refine ⟨mB a b c d - mO a b c d, mO a b c d, mB a b c d - mT a b c d, mT a b c d, by omega, by omega, by omega, by omega, by omega, by omega, ?_, ?_⟩
    · unfold mB mO mT; grind
    · unfold mB mO mT; grind
  · refine ⟨mO a b c d - mB a b c d, 0 - mO a b c d, mT a b c d - mB a b c d, 0 - mT a b c d, by omega, by omega, by omega, by omega, by omega, by omega, ?_, ?_⟩
    · unfold mB mO mT; grind
    · unfold mB mO mT; grind
theorem cm_swap {a b c d : PT} (h : CM a b c d) : CM a b d c := by
  obtain ⟨u, v, x, y, h1, h2, h3, h4, h5, h6, h7, h8⟩ := h
  exact ⟨u, v, y, x, h1, h2, h4, h3, h5, by omega, by omega, by omega⟩
theorem cm_sm {a b c d : PT} (h : smB a b c d = true) : CM a b c d := by
  unfold smB at h
  simp only [Bool.or_eq_true] at h
  rcases h with h | h | h | h | h
  · exact cm_crs h
  · exact cm_on h
  · exact cm_swap (cm_on h)
  · exact (cm_on h).symm
  · have := (cm_on (d := a) h).symm
    obtain ⟨u, v, x, y, h1, h2, h3, h4, h5, h6, h7, h8⟩ := this
    exact ⟨v, u, x, y, h2, h1, h3, h4, by omega, by omega, by omega, by omega⟩
theorem within_of {w v n m : Int} (hw : 0 < w) (h0 : 0 ≤ v) (h1 : v ≤ w) (h : w * n = v * m) : wiB n m = true := by
  unfold wiB
  rw [Bool.or_eq_true, Bool.and_eq_true, Bool.and_eq_true, decide_eq_true_eq, decide_eq_true_eq, decide_eq_true_eq, decide_eq_true_eq]
  by_cases hm : 0 ≤ m
  · refine .inl ⟨?_, ?_⟩
    · have := Int.mul_nonneg h0 hm
      exact Int.le_of_mul_le_mul_left (a := w) (by omega) hw
    · have := Int.mul_le_mul_of_nonneg_right h1 hm
      exact Int.le_of_mul_le_mul_left (a := w) (by omega) hw
  · refine .inr ⟨?_, ?_⟩
    · have := Int.mul_le_mul_of_nonpos_right h1 (show m ≤ 0 by omega)
      exact Int.le_of_mul_le_mul_left (a := w) (by omega) hw
    · have := Int.mul_le_mul_of_nonpos_right h0 (show m ≤ 0 by omega)
      exact Int.le_of_mul_le_mul_left (a := w) (by omega) hw
theorem not_less {u v x y a b c d : Int} (h1 : 0 ≤ u) (h2 : 0 ≤ v) (h3 : 0 ≤ x) (h4 : 0 ≤ y) (h5 : 0 < u + v) (h6 : u + v = x + y) (h : u * a + v * b = x * c + y * d) : ¬ max a b < min c d := by
  intro z
  have m1 := Int.mul_le_mul_of_nonneg_left (show a ≤ max a b by omega) h1
  have m2 := Int.mul_le_mul_of_nonneg_left (show b ≤ max a b by omega) h2
  have m3 := Int.mul_le_mul_of_nonneg_left (show max a b + 1 ≤ c by omega) h3
  have m4 := Int.mul_le_mul_of_nonneg_left (show max a b + 1 ≤ d by omega) h4
  generalize max a b = m at *
  have e1 : u * m + v * m = x * m + y * m := by rw [← Int.add_mul, ← Int.add_mul, h6]
  rw [Int.mul_add] at m3 m4
  omega
theorem not_apart {u v x y a b c d : Int} (h1 : 0 ≤ u) (h2 : 0 ≤ v) (h3 : 0 ≤ x) (h4 : 0 ≤ y) (h5 : 0 < u + v) (h6 : u + v = x + y) (h : u * a + v * b = x * c + y * d) : apart a b c d = false := by
  unfold apart
  rw [decide_eq_false (not_less h1 h2 h3 h4 h5 h6 h), decide_eq_false (not_less h3 h4 h1 h2 (by omega) h6.symm h.symm)]
  rfl
theorem lm_cm {a b c d : PT} (h : CM a b c d) : lmB a b c d = true := by
  obtain ⟨u, v, x, y, h1, h2, h3, h4, h5, h6, h7, h8⟩ := h
  have e1 : (u + v) * (c.1 - a.1) = v * (b.1 - a.1) - y * (d.1 - c.1) := by grind
  have e2 : (u + v) * (c.2 - a.2) = v * (b.2 - a.2) - y * (d.2 - c.2) := by grind
  have k1 : (u + v) * mO a b c d = v * mB a b c d := by
    unfold mO mB
    have : (u + v) * ((c.1 - a.1) * (d.2 - c.2) - (c.2 - a.2) * (d.1 - c.1)) = (u + v) * (c.1 - a.1) * (d.2 - c.2) - (u + v) * (c.2 - a.2) * (d.1 - c.1) := by grind
    rw [this, e1, e2]; grind
  have k2 : (u + v) * mT a b c d = y * mB a b c d := by
    unfold mT mB
    have : (u + v) * ((c.1 - a.1) * (b.2 - a.2) - (c.2 - a.2) * (b.1 - a.1)) = (u + v) * (c.1 - a.1) * (b.2 - a.2) - (u + v) * (c.2 - a.2) * (b.1 - a.1) := by grind
    rw [this, e1, e2]; grind
  unfold lmB
  by_cases hz : mB a b c d = 0
  · have ht : mT a b c d = 0 := by
      rw [hz, Int.mul_zero] at k2
      rcases Int.mul_eq_zero.mp k2 with z | z
      · omega
      · exact z
    rw [if_neg (by simp [hz]), if_neg (by simp [ht]), not_apart h1 h2 h3 h4 h5 h6 h7, not_apart h1 h2 h3 h4 h5 h6 h8]
    rfl
  · rw [if_pos hz, within_of h5 h2 (by omega) k1, within_of h5 h4 (by omega) k2]
    rfl
theorem same_sign {n m : Int} (h : wiB n m = true) : 0 ≤ n * (m - n) := by
  unfold wiB at h
  simp only [Bool.or_eq_true, Bool.and_eq_true, decide_eq_true_eq] at h
  rcases h with ⟨h1, h2⟩ | ⟨h1, h2⟩
  · exact Int.mul_nonneg h1 (by omega)
  · exact Int.mul_nonneg_of_nonpos_of_nonpos h2 (by omega)
/-- on a side: the dot product, from the parts -/
theorem dot_part {m f1 f2 g1 g2 n r1 r2 : Int} (hm : m ≠ 0) (e1 : m * f1 = (0 - n) * r1) (e2 : m * f2 = (0 - n) * r2) (k1 : m * g1 = (m - n) * r1) (k2 : m * g2 = (m - n) * r2) (h : 0 ≤ n * (m - n)) : f1 * g1 + f2 * g2 ≤ 0 := by
  have hm2 : 0 < m * m := pos_of (sq_nn m) fun z => hm (sq_zero z.symm)
  have n1 := sq_nn r1
  have n2 := sq_nn r2
  have e : m * m * (f1 * g1 + f2 * g2) = 0 - n * (m - n) * (r1 * r1 + r2 * r2) := by
    have : m * m * (f1 * g1 + f2 * g2) = (m * f1) * (m * g1) + (m * f2) * (m * g2) := by grind
    rw [this, e1, e2, k1, k2]; grind
  have := Int.mul_nonneg h (show 0 ≤ r1 * r1 + r2 * r2 by omega)
  refine Int.le_of_mul_le_mul_left (a := m * m) ?_ hm2
  omega
theorem on_x {a b p : PT} (hw : war a b p = 0) (hr : b.1 ≠ a.1) (h : (a.1 - p.1) * (b.1 - p.1) ≤ 0) : woB a b p = true := by
  refine (woB_iff _ _ _).mpr ⟨hw, ?_⟩
  unfold war at hw
  have hr2 : 0 < (b.1 - a.1) * (b.1 - a.1) := pos_of (sq_nn _) fun z => hr (by have := sq_zero z.symm; omega)
  have e : (b.1 - a.1) * (b.1 - a.1) * ((a.1 - p.1) * (b.1 - p.1) + (a.2 - p.2) * (b.2 - p.2)) = (a.1 - p.1) * (b.1 - p.1) * ((b.1 - a.1) * (b.1 - a.1) + (b.2 - a.2) * (b.2 - a.2)) := by grind
  have n2 := sq_nn (b.2 - a.2)
  refine Int.le_of_mul_le_mul_left (a := (b.1 - a.1) * (b.1 - a.1)) ?_ hr2
  rw [e, Int.mul_zero]
  exact Int.mul_nonpos_of_nonpos_of_nonneg h (by omega)
theorem on_y {a b p : PT} (hw : war a b p = 0) (hr : b.2 ≠ a.2) (h : (a.2 - p.2) * (b.2 - p.2) ≤ 0) : woB a b p = true := by
  refine (woB_iff _ _ _).mpr ⟨hw, ?_⟩
  unfold war at hw
  have hr2 : 0 < (b.2 - a.2) * (b.2 - a.2) := pos_of (sq_nn _) fun z => hr (by have := sq_zero z.symm; omega)
  have e : (b.2 - a.2) * (b.2 - a.2) * ((a.1 - p.1) * (b.1 - p.1) + (a.2 - p.2) * (b.2 - p.2)) = (a.2 - p.2) * (b.2 - p.2) * ((b.1 - a.1) * (b.1 - a.1) + (b.2 - a.2) * (b.2 - a.2)) := by grind
  have n2 := sq_nn (b.1 - a.1)
  refine Int.le_of_mul_le_mul_left (a := (b.2 - a.2) * (b.2 - a.2)) ?_ hr2
  rw [e, Int.mul_zero]
  exact Int.mul_nonpos_of_nonpos_of_nonneg h (by omega)
theorem btw_mul {x y p : Int} (h : (x ≤ p ∧ p ≤ y) ∨ (y ≤ p ∧ p ≤ x)) : (x - p) * (y - p) ≤ 0 := by
  rcases h with ⟨h1, h2⟩ | ⟨h1, h2⟩
  · exact Int.mul_nonpos_of_nonpos_of_nonneg (by omega) (by omega)
  · exact Int.mul_nonpos_of_nonneg_of_nonpos (by omega) (by omega)
theorem over_1d {a b c d : Int} (h : apart a b c d = false) : ((a ≤ c ∧ c ≤ b) ∨ (b ≤ c ∧ c ≤ a)) ∨ ((a ≤ d ∧ d ≤ b) ∨ (b ≤ d ∧ d ≤ a)) ∨ ((c ≤ a ∧ a ≤ d) ∨ (d ≤ a ∧ a ≤ c)) := by
  unfold apart at h
  rw [Bool.or_eq_false_iff, decide_eq_false_iff_not, decide_eq_false_iff_not] at h
  omega
theorem sm_lm {a b c d : PT} (hab : a ≠ b) (hcd : c ≠ d) (h : lmB a b c d = true) : smB a b c d = true := by
  unfold smB
  simp only [Bool.or_eq_true]
  unfold lmB at h
  by_cases hz : mB a b c d = 0
  · rw [if_neg (by simp [hz])] at h
    by_cases ht : mT a b c d = 0
    · rw [if_neg (by simp [ht])] at h
      simp only [Bool.and_eq_true, Bool.not_eq_true'] at h
      obtain ⟨hx, hy⟩ := h
      have w1 : war a b c = 0 := by rw [war_T a b c d, ht]; rfl
      have w2 : war a b d = 0 := by rw [war_TB a b c d, ht, hz]; rfl
      have w3 : war c d a = 0 := by
        rw [war_O]
        have i1 : (b.1 - a.1) * mO a b c d = (c.1 - a.1) * mB a b c d + (d.1 - c.1) * mT a b c d := by unfold mO mB mT; grind
        have i2 : (b.2 - a.2) * mO a b c d = (c.2 - a.2) * mB a b c d + (d.2 - c.2) * mT a b c d := by unfold mO mB mT; grind
        rw [hz, ht, Int.mul_zero, Int.mul_zero] at i1 i2
        rcases Int.mul_eq_zero.mp i1 with z1 | z1
        · rcases Int.mul_eq_zero.mp i2 with z2 | z2
          · exact absurd (Prod.ext (by omega) (by omega)) hab
          · exact z2
        · exact z1
      unfold mB at hz
      by_cases hr : b.1 = a.1
      · have hr2 : b.2 ≠ a.2 := fun z => hab (Prod.ext hr.symm z.symm)
        have q1 : d.1 = c.1 := by
          rw [hr, Int.sub_self, Int.zero_mul] at hz
          have : (b.2 - a.2) * (d.1 - c.1) = 0 := by omega
          rcases Int.mul_eq_zero.mp this with z | z
          · omega
          · omega
        have q2 : d.2 ≠ c.2 := fun z => hcd (Prod.ext q1.symm z.symm)
        rcases over_1d hy with k | k | k
        · exact .inr (.inl (on_y w1 hr2 (btw_mul k)))
        · exact .inr (.inr (.inl (on_y w2 hr2 (btw_mul k))))
        · exact .inr (.inr (.inr (.inl (on_y w3 q2 (btw_mul k)))))
      · have q1 : d.1 ≠ c.1 := fun z => by
          rw [z, Int.sub_self, Int.mul_zero] at hz
          have : (b.1 - a.1) * (d.2 - c.2) = 0 := by omega
          rcases Int.mul_eq_zero.mp this with z2 | z2
          · omega
          · exact hcd (Prod.ext z.symm (by omega))
        rcases over_1d hx with k | k | k
        · exact .inr (.inl (on_x w1 hr (btw_mul k)))
        · exact .inr (.inr (.inl (on_x w2 hr (btw_mul k))))
        · exact .inr (.inr (.inr (.inl (on_x w3 q1 (btw_mul k)))))
    · rw [if_pos ht] at h; cases h
  · rw [if_pos hz, Bool.and_eq_true] at h
    obtain ⟨hO, hT⟩ := h
    have sO := same_sign hO
    have sT := same_sign hT
    have i1 : mB a b c d * (c.1 - a.1) = mO a b c d * (b.1 - a.1) - mT a b c d * (d.1 - c.1) := by unfold mO mB mT; grind
    have i2 : mB a b c d * (c.2 - a.2) = mO a b c d * (b.2 - a.2) - mT a b c d * (d.2 - c.2) := by unfold mO mB mT; grind
    by_cases t0 : mT a b c d = 0
    · refine .inr (.inl ((woB_iff _ _ _).mpr ⟨by rw [war_T a b c d, t0]; rfl, ?_⟩))
      rw [t0, Int.zero_mul, Int.sub_zero] at i1 i2
      exact dot_part (r1 := b.1 - a.1) (r2 := b.2 - a.2) hz (by grind) (by grind) (by grind) (by grind) sO
    · by_cases t1 : mT a b c d = mB a b c d
      · refine .inr (.inr (.inl ((woB_iff _ _ _).mpr ⟨by rw [war_TB a b c d, t1]; omega, ?_⟩)))
        rw [t1] at i1 i2
        exact dot_part (r1 := b.1 - a.1) (r2 := b.2 - a.2) hz (by grind) (by grind) (by grind) (by grind) sO
      · by_cases o0 : mO a b c d = 0
        · refine .inr (.inr (.inr (.inl ((woB_iff _ _ _).mpr ⟨by rw [war_O, o0], ?_⟩))))
          rw [o0, Int.zero_mul, Int.zero_sub] at i1 i2
          exact dot_part (r1 := d.1 - c.1) (r2 := d.2 - c.2) hz (by grind) (by grind) (by grind) (by grind) sT
        · by_cases o1 : mO a b c d = mB a b c d
          · refine .inr (.inr (.inr (.inr ((woB_iff _ _ _).mpr ⟨by rw [war_OB, o1]; omega, ?_⟩))))
            rw [o1] at i1 i2
            exact dot_part (r1 := d.1 - c.1) (r2 := d.2 - c.2) hz (by grind) (by grind) (by grind) (by grind) sT
          · refine .inl ((wcB_iff a b c d).mpr ?_)
            unfold wiB at hO hT
            simp only [Bool.or_eq_true, Bool.and_eq_true, decide_eq_true_eq] at hO hT
            omega
theorem sm_eq_lm {a b c d : PT} (hab : a ≠ b) (hcd : c ≠ d) : lmB a b c d = smB a b c d := by
  rw [Bool.eq_iff_iff]
  exact ⟨sm_lm hab hcd, fun h => lm_cm (cm_sm h)⟩
/-- back along the side ahead -/
theorem tb_iff (a b c : PT) : tbB a b c = true ↔ lcB a b c = 0 ∧ (b.1 - a.1) * (c.1 - b.1) + (b.2 - a.2) * (c.2 - b.2) < 0 := by
  unfold tbB
  rw [Bool.and_eq_true, decide_eq_true_eq, Bool.not_eq_true', ← Bool.not_eq_true, woB_iff]
  have e1 : war a b c = lcB a b c := by unfold war lcB; grind
  have e2 : war a c b = 0 - lcB a b c := by unfold war lcB; grind
  have e3 : (a.1 - b.1) * (c.1 - b.1) + (a.2 - b.2) * (c.2 - b.2) = 0 - ((b.1 - a.1) * (c.1 - b.1) + (b.2 - a.2) * (c.2 - b.2)) := by grind
  rw [e1, e2, e3]
  omega
theorem getD_at {l : List PT} {k : Nat} (h : k < l.length) : l.getD k (0, 0) = l[k] := by rw [List.getD_eq_getElem?_getD, List.getElem?_eq_getElem h]; rfl
/-! rings that do not meet themselves -/
theorem cix_mod (cs : List PT) (k : Int) : cix cs (k + cs.length) = cix cs k := by
  unfold cix; rw [Int.add_emod_right]
theorem cix_sub (cs : List PT) (k : Int) : cix cs (k - cs.length) = cix cs k := by
  unfold cix; rw [Int.sub_emod_right]
theorem Sh.symm {a b c d : PT} (h : Sh a b c d) : Sh c d a b := by
  obtain ⟨u, v, x, y, h1, h2, h3, h4, h5, h6, h7⟩ := h
  exact ⟨x, y, u, v, h3, h4, h1, h2, h5.symm, h6.symm, h7.symm⟩
theorem Simple.anyI {cs : List PT} (h : Simple cs) {i j : Int} (hij : i % (cs.length : Int) ≠ j % (cs.length : Int)) : ¬ Sh (cix cs i) (cix cs (i + 1)) (cix cs j) (cix cs (j + 1)) := by
  have hn : (0 : Int) < cs.length := by have := h.len; omega
  have hn0 : (cs.length : Int) ≠ 0 := by omega
  have a0 := Int.emod_nonneg i hn0
  have a1 := Int.emod_lt_of_pos i hn
  have b0 := Int.emod_nonneg j hn0
  have b1 := Int.emod_lt_of_pos j hn
  have key := h.apart (i % (cs.length : Int)).toNat (j % (cs.length : Int)).toNat (by omega) (by omega) (by omega)
  rw [Int.toNat_of_nonneg a0, Int.toNat_of_nonneg b0] at key
  have e : ∀ k : Int, cix cs (k % (cs.length : Int)) = cix cs k := fun k => by unfold cix; rw [Int.emod_emod]
  have e2 : ∀ k : Int, cix cs (k % (cs.length : Int) + 1) = cix cs (k + 1) := fun k => by unfold cix; rw [Int.emod_add_emod]
  rwa [e, e, e2, e2] at key
theorem cm_sh {cs : List PT} (h : Simple cs) {i j : Int} (hij : ∀ s t : Int, (s = 0 ∨ s = 1) → (t = 0 ∨ t = 1) → (i + s) % (cs.length : Int) ≠ (j + t) % (cs.length : Int)) : ¬ CM (cix cs i) (cix cs (i + 1)) (cix cs j) (cix cs (j + 1)) := by
  rintro ⟨u, v, x, y, h1, h2, h3, h4, h5, h6, h7, h8⟩
  by_cases hu : u = 0
  · by_cases hx : x = 0
    · refine h.anyI (hij 1 1 (.inr rfl) (.inr rfl)) ⟨v, 0, y, 0, by omega, by omega, by omega, by omega, by omega, ?_, ?_⟩
      · rw [hu, hx] at h7; omega
      · rw [hu, hx] at h8; omega
    · have := hij 1 0 (.inr rfl) (.inl rfl)
      rw [Int.add_zero] at this
      refine h.anyI this ⟨v, 0, x, y, by omega, by omega, by omega, by omega, by omega, ?_, ?_⟩
      · rw [hu] at h7; omega
      · rw [hu] at h8; omega
  · by_cases hx : x = 0
    · have := hij 0 1 (.inl rfl) (.inr rfl)
      rw [Int.add_zero] at this
      refine h.anyI this ⟨u, v, y, 0, by omega, by omega, by omega, by omega, by omega, ?_, ?_⟩
      · rw [hx] at h7; omega
      · rw [hx] at h8; omega
    · have := hij 0 0 (.inl rfl) (.inl rfl)
      rw [Int.add_zero, Int.add_zero] at this
      exact h.anyI this ⟨u, v, x, y, by omega, by omega, by omega, by omega, by omega, h7, h8⟩
theorem tb_sh {a b c : PT} (h : tbB a b c = true) : Sh a b b c := by
  obtain ⟨h1, h2⟩ := (tb_iff a b c).mp h
  unfold lcB at h1
  have n1 := sq_nn (b.1 - a.1)
  have n2 := sq_nn (b.2 - a.2)
  refine ⟨0 - ((b.1 - a.1) * (c.1 - b.1) + (b.2 - a.2) * (c.2 - b.2)), (b.1 - a.1) * (b.1 - a.1) + (b.2 - a.2) * (b.2 - a.2), 0 - ((b.1 - a.1) * (c.1 - b.1) + (b.2 - a.2) * (c.2 - b.2)), (b.1 - a.1) * (b.1 - a.1) + (b.2 - a.2) * (b.2 - a.2), by omega, by omega, by omega, by omega, rfl, ?_, ?_⟩
  · grind
  · grind
theorem emod_ne {n i j : Int} (hn : 0 < n) (h : i < j) (h2 : j < i + n) : i % n ≠ j % n := fun z => by
  have : (j - i) % n = 0 := Int.emod_eq_zero_of_dvd (Int.dvd_of_emod_eq_zero (by rw [Int.sub_emod, z, Int.sub_self, Int.zero_emod]))
  rw [Int.emod_eq_of_lt (by omega) (by omega)] at this
  omega
theorem simple_ci {cs : List PT} (h : Simple cs) : ciB cs = false := by
  have hl := h.len
  rw [← Bool.not_eq_true]
  intro z
  unfold ciB at z
  rw [List.any_eq_true] at z
  obtain ⟨i, hi, z⟩ := z
  rw [List.mem_range] at hi
  rw [Bool.or_eq_true] at z
  rcases z with z | z
  · have k := tb_sh z
    have := h.anyI (i := (i : Int) - 2) (j := (i : Int) - 1) (emod_ne (by omega) (by omega) (by omega))
    rw [show (i : Int) - 2 + 1 = i - 1 by omega, show (i : Int) - 1 + 1 = i by omega] at this
    exact this k
  · rw [List.any_eq_true] at z
    obtain ⟨j, hj, z⟩ := z
    rw [List.mem_range] at hj
    simp only [Bool.and_eq_true, decide_eq_true_eq] at z
    obtain ⟨z1, z2, z3⟩ := z
    refine cm_sh h (i := (i : Int)) (j := (j : Int)) (fun s t hs ht => ?_) (cm_sm z3)
    have hn : (0 : Int) < cs.length := by omega
    by_cases hst : s = 0 ∧ t = 1 ∧ j + 1 = cs.length
    · obtain ⟨h1, h2, h3⟩ := hst
      rw [h1, h2]
      refine emod_ne hn (by omega) (by omega)
    · exact emod_ne hn (by omega) (by omega)
/-- the law's own look at all sides -/
def LB (cs : List PT) : Bool := (List.range cs.length).any fun i => tbB (cix cs ((i : Int) - 2)) (cix cs ((i : Int) - 1)) (cix cs i) ||
  (List.range i).any fun o => (decide (1 < (i : Int) - o) && decide ((i : Int) - o < cs.length - 1)) && lmB (cix cs ((o : Int) - 1)) (cix cs (o : Int)) (cix cs ((i : Int) - 1)) (cix cs (i : Int))
theorem smB_symm (a b c d : PT) : smB a b c d = smB c d a b := by
  have e : wcB c d a b = wcB a b c d := by
    unfold wcB
    rw [Bool.and_comm]
  unfold smB
  rw [e]
  cases wcB a b c d <;> cases woB a b c <;> cases woB a b d <;> cases woB c d a <;> cases woB c d b <;> rfl
theorem cix_ne {cs : List PT} (hd : cs.Nodup) (hl : 3 ≤ cs.length) (k : Int) : cix cs k ≠ cix cs (k + 1) := by
  intro z
  have hn : (0 : Int) < cs.length := by omega
  have hn0 : (cs.length : Int) ≠ 0 := by omega
  have a0 := Int.emod_nonneg k hn0
  have a1 := Int.emod_lt_of_pos k hn
  have b0 := Int.emod_nonneg (k + 1) hn0
  have b1 := Int.emod_lt_of_pos (k + 1) hn
  have hne := emod_ne (n := (cs.length : Int)) hn (show k < k + 1 by omega) (by omega)
  unfold cix at z
  rw [getD_at (by omega), getD_at (by omega)] at z
  have := (List.getElem_inj (h₀ := by omega) (h₁ := by omega) hd).mp z
  omega
theorem lb_ci {cs : List PT} (hd : cs.Nodup) (hl : 3 ≤ cs.length) : LB cs = ciB cs := by
  have sl : ∀ i j : Int, lmB (cix cs (i - 1)) (cix cs i) (cix cs (j - 1)) (cix cs j) = smB (cix cs (i - 1)) (cix cs i) (cix cs (j - 1)) (cix cs j) := fun i j => by
    refine sm_eq_lm ?_ ?_
    · have := cix_ne hd hl (i - 1); rwa [Int.sub_add_cancel] at this
    · have := cix_ne hd hl (j - 1); rwa [Int.sub_add_cancel] at this
  rw [Bool.eq_iff_iff]
  unfold LB ciB
  simp only [List.any_eq_true, List.mem_range, Bool.or_eq_true, Bool.and_eq_true, decide_eq_true_eq]
  constructor
  · rintro ⟨i, hi, h | ⟨o, ho, ⟨h1, h2⟩, h3⟩⟩
    · exact ⟨i, hi, .inl h⟩
    · rw [sl] at h3
      by_cases ho0 : o = 0
      · subst ho0
        refine ⟨i - 1, by omega, .inr ⟨cs.length - 1, by omega, by omega, by omega, ?_⟩⟩
        unfold smI
        rw [smB_symm]
        have e1 : cix cs ((cs.length - 1 : Nat) : Int) = cix cs (((0 : Nat) : Int) - 1) := by
          rw [← cix_sub]; congr 1; omega
        have e2 : cix cs (((cs.length - 1 : Nat) : Int) + 1) = cix cs ((0 : Nat) : Int) := by
          rw [← cix_sub]; congr 1; omega
        have e3 : ((i - 1 : Nat) : Int) = (i : Int) - 1 := by omega
        rw [e1, e2, e3, Int.sub_add_cancel]
        exact h3
      · refine ⟨o - 1, by omega, .inr ⟨i - 1, by omega, by omega, by omega, ?_⟩⟩
        unfold smI
        have e3 : ((i - 1 : Nat) : Int) = (i : Int) - 1 := by omega
        have e4 : ((o - 1 : Nat) : Int) = (o : Int) - 1 := by omega
        rw [e3, e4, Int.sub_add_cancel, Int.sub_add_cancel]
        exact h3
  · rintro ⟨i, hi, h | ⟨j, hj, h1, h2, h3⟩⟩
    · exact ⟨i, hi, .inl h⟩
    · unfold smI at h3
      by_cases hj1 : j + 1 = cs.length
      · refine ⟨i + 1, by omega, .inr ⟨0, by omega, ⟨by omega, by omega⟩, ?_⟩⟩
        rw [sl]
        rw [smB_symm] at h3
        have e1 : cix cs (((0 : Nat) : Int) - 1) = cix cs (j : Int) := by
          rw [← cix_sub cs (j : Int)]; congr 1; omega
        have e2 : cix cs ((0 : Nat) : Int) = cix cs ((j : Int) + 1) := by
          rw [← cix_sub cs ((j : Int) + 1)]; congr 1; omega
        have e3 : ((i + 1 : Nat) : Int) - 1 = (i : Int) := by omega
        have e4 : ((i + 1 : Nat) : Int) = (i : Int) + 1 := by omega
        rw [e1, e2, e3, e4]
        exact h3
      · refine ⟨j + 1, by omega, .inr ⟨i + 1, by omega, ⟨by omega, by omega⟩, ?_⟩⟩
        rw [sl]
        have e3 : ((i + 1 : Nat) : Int) - 1 = (i : Int) := by omega
        have e4 : ((i + 1 : Nat) : Int) = (i : Int) + 1 := by omega
        have e5 : ((j + 1 : Nat) : Int) - 1 = (j : Int) := by omega
        have e6 : ((j + 1 : Nat) : Int) = (j : Int) + 1 := by omega
        rw [e3, e5, e4, e6]
        exact h3
theorem simple_nodup {cs : List PT} (h : Simple cs) : cs.Nodup := by
  rw [List.nodup_iff_pairwise_ne, List.pairwise_iff_getElem]
  intro i j hi hj hij z
  have e : ∀ k : Nat, (hk : k < cs.length) → cix cs (k : Int) = cs[k] := fun k hk => by
    unfold cix
    rw [Int.emod_eq_of_lt (by omega) (by omega), Int.toNat_natCast]
    exact getD_at hk
  refine h.apart i j hi hj (by omega) ⟨1, 0, 1, 0, by decide, by decide, by decide, by decide, rfl, ?_, ?_⟩
  · rw [e i hi, e j hj, z]; omega
  · rw [e i hi, e j hj, z]; omega
theorem scan_ok : ∀ (cs pre : List PT), (∀ c ∈ cs, c.1.natAbs ≤ 1000 ∧ c.2.natAbs ≤ 1000) → (pre ++ cs).Nodup → scan pre (cs.map DI) = .inr (pre ++ cs)
  | [], pre, _, _ => by rw [List.append_nil]; rfl
  | c :: cs, pre, hb, hn => by
    have e : cor (DI c) = some c := if_pos (hb c List.mem_cons_self)
    have hc : c ∉ pre := fun z => by
      rw [List.nodup_append] at hn
      exact hn.2.2 c z c List.mem_cons_self rfl
    rw [List.map_cons, scan, e]
    simp only [if_neg hc]
    rw [scan_ok cs (pre ++ [c]) (fun x hx => hb x (List.mem_cons_of_mem _ hx)) (by rw [List.append_assoc]; exact hn), List.append_assoc]
    rfl
theorem rf_simple {cs : List PT} (h : Simple cs) (hb : ∀ c ∈ cs, c.1.natAbs ≤ 1000 ∧ c.2.natAbs ≤ 1000) : rfD (RG cs) = .non := by
  have hl := h.len
  unfold rfD RG
  have e := scan_ok cs [] hb (simple_nodup h)
  simp only [e, List.length_map, List.nil_append]
  rw [if_neg (by omega), simple_ci h]
  rfl
/-! walks: rings -/
theorem cix_nat {cs : List PT} {k : Nat} (h : k < cs.length) : cix cs (k : Int) = cs[k] := by
  unfold cix
  rw [Int.emod_eq_of_lt (by omega) (by omega), Int.toNat_natCast]
  exact getD_at h
theorem ix_rg {cs : List PT} {k : Int} {S : Sto} {P : PD} (h0 : -(cs.length : Int) ≤ k) (h1 : k < cs.length) : oIdx (RG cs) (.int k) S P = P (DI (cix cs k)) S := by
  by_cases hk : 0 ≤ k
  · obtain ⟨m, rfl⟩ := Int.eq_ofNat_of_zero_le hk
    refine lx_tup ?_
    rw [List.getElem?_map, List.getElem?_eq_getElem (by omega), cix_nat (by omega)]
    rfl
  · obtain ⟨m, hm⟩ := Int.eq_ofNat_of_zero_le (show 0 ≤ -k by omega)
    have e : k = -(m : Int) := by omega
    subst e
    have ha : atI (cs.map DI) (-(m : Int)) = some (DI (cix cs (-(m : Int)))) := by
      rw [at_neg _ m (by omega) (by rw [List.length_map]; omega), List.length_map, List.getElem?_map, List.getElem?_eq_getElem (by omega)]
      have : cix cs (-(m : Int)) = cs[cs.length - m] := by
        rw [← cix_mod, show -(m : Int) + cs.length = ((cs.length - m : Nat) : Int) by omega]
        exact cix_nat (by omega)
      rw [this]; rfl
    unfold oIdx seqOf RG
    simp only [ha]
theorem mem_ints {d : D} {lo : Int} {n : Nat} (h : d ∈ intsD lo n) : ∃ i : Int, d = .int i ∧ lo ≤ i ∧ i < lo + n := by
  unfold intsD at h
  obtain ⟨k, hk, rfl⟩ := List.mem_map.mp h
  rw [List.mem_range] at hk
  exact ⟨lo + k, rfl, by omega, by omega⟩
theorem fm_ints (g : Int → D) (lo : Int) (n : Nat) : (intsD lo n).filterMap (fun d => match d with
    | .int i => some (g i)
    | _ => none) = (List.range n).map fun (k : Nat) => g (lo + k) := by
  unfold intsD
  rw [List.filterMap_map]
  exact List.filterMap_eq_map (f := fun (k : Nat) => g (lo + (k : Int))) ▸ rfl
theorem wip2 {a b : Option D} : wipeD [a, b] [1] = [a, none] := id rfl
theorem sd_split {cs : List PT} (h : cs ≠ []) : ((List.range (cs.length - 1)).map fun (k : Nat) => D.tup [DI (cix cs (1 + (k : Int) - 1)), DI (cix cs (1 + (k : Int)))]) ++ [.tup [DI (cix cs (-1)), DI (cix cs 0)]] = (sdL cs).map fun s => .tup [DI s.1, DI s.2] := by
  have hn : 0 < cs.length := List.length_pos_iff.mpr h
  obtain ⟨m, hm⟩ : ∃ m, cs.length = m + 1 := ⟨cs.length - 1, by omega⟩
  unfold sdL
  rw [hm, List.range_succ, List.map_append, List.map_append, List.map_map]
  congr 1
  · refine List.map_congr_left fun k _ => ?_
    show D.tup [DI (cix cs (1 + (k : Int) - 1)), DI (cix cs (1 + (k : Int)))] = .tup [DI (cix cs (k : Int)), DI (cix cs ((k : Int) + 1))]
    rw [show 1 + (k : Int) - 1 = k by omega, Int.add_comm 1]
  · show [D.tup [DI (cix cs (-1)), DI (cix cs 0)]] = [.tup [DI (cix cs (m : Int)), DI (cix cs ((m : Int) + 1))]]
    have e1 : cix cs (-1) = cix cs (m : Int) := by rw [← cix_mod cs (-1)]; congr 1; omega
    have e2 : cix cs 0 = cix cs ((m : Int) + 1) := by rw [← cix_mod cs 0]; congr 1; omega
    rw [e1, e2]
theorem len_rg {cs : List PT} {S : Sto} {P : PD} : oLen [RG cs] S P = P (.int (cs.length : Nat)) S := by
  have e : (cs.length : Int) = ((cs.map DI).length : Nat) := by rw [List.length_map]
  rw [e]; rfl
theorem does_ring_sides : Does c_ring_sides w_ring_sides N_ring_sides 1 := by
  rintro ds S P X ⟨cs, rfl, hne, hl, h⟩
  refine ⟨rfl, ?_⟩
  have hn : 0 < cs.length := List.length_pos_iff.mpr hne
  show w_ring_sides _ _ [some (RG cs), none] S
  simp only [w_ring_sides, xret, xn, xcons, xnil, x2]
  refine lc_go (S1 := S) (ds := intsD 1 (cs.length - 1)) (fun d => match d with
    | .int i => some (.tup [DI (cix cs (i - 1)), DI (cix cs i)])
    | _ => none) (fun Q hq => ?_) (le_line (by rw [ints_len]; omega)) (fun p hp d hd acc R hR => ?_) ?_
  · simp only [xrng2, xcons, xnil, xn, v0, xc, len_rg]
    rw [show ((cs.length : Int) - 1).toNat = cs.length - 1 by omega]
    exact ⟨by omega, hq⟩
  · obtain ⟨i, rfl, h1, h2⟩ := mem_ints hd
    simp only [wip2, g1, tYesD, if_true, xtup, xcons, xnil, x2, v0, v1, xc, osubI]
    rw [ix_rg (by omega) (by omega), ix_rg (by omega) (by omega)]
    exact ⟨two_line, hR⟩
  · rw [fm_ints (fun i => .tup [DI (cix cs (i - 1)), DI (cix cs i)])]
    simp only [xlst, xcons, xnil, xtup, x2, x1, v0, xc, onegI]
    rw [ix_rg (by omega) (by omega), ix_rg (by omega) (by omega)]
    refine ⟨two_line, le_line (by simp), ?_⟩
    rw [add_lst]
    refine ⟨?_, ?_⟩
    · rw [List.length_map, List.length_range]; exact le_line (by simp only [List.length_cons, List.length_nil]; omega)
    · rw [tup_lst, sd_split hne]
      exact ⟨S, Sub.refl _, h⟩
theorem k_sides {cs : List PT} {S : Sto} {P : PD} {X : PX} (hne : cs ≠ []) (hl : cs.length ≤ 200) (k : P (sdD cs) S) : c_ring_sides [RG cs] S P X := ⟨cs, rfl, hne, hl, k⟩
theorem ix_sd {cs : List PT} {k : Nat} {S : Sto} {P : PD} (h : k < cs.length) : oIdx (sdD cs) (.int (k : Int)) S P = P (.tup [DI (cix cs (k : Int)), DI (cix cs ((k : Int) + 1))]) S := by
  refine lx_tup ?_
  unfold sdL
  rw [List.getElem?_map, List.getElem?_map, List.getElem?_range h]
  rfl
theorem bp_cix {cs : List PT} (h : BR cs) (hn : 0 < cs.length) (k : Int) : BP 14 (cix cs k) := by
  have a0 := Int.emod_nonneg k (show (cs.length : Int) ≠ 0 by omega)
  have a1 := Int.emod_lt_of_pos k (show (0 : Int) < cs.length by omega)
  unfold cix
  rw [getD_at (by omega)]
  exact h.2 _ (List.getElem_mem _)
theorem k_smeet {a b c d : PT} {S : Sto} {P : PD} {X : PX} (ha : BP 14 a) (hb : BP 14 b) (hc : BP 14 c) (hd : BP 14 d) (k : P (.bl (smB a b c d)) S) : c_sides_meet [.tup [DI a, DI b], .tup [DI c, DI d]] S P X := ⟨a, b, c, d, rfl, ha, hb, hc, hd, k⟩
theorem k_tback {a b c : PT} {S : Sto} {P : PD} {X : PX} (ha : BP 14 a) (hb : BP 14 b) (hc : BP 14 c) (k : P (.bl (tbB a b c)) S) : c_turns_back [DI a, DI b, DI c] S P X := ⟨a, b, c, rfl, ha, hb, hc, k⟩
def badI (cs : List PT) (i : Nat) : Prop := tbB (cix cs ((i : Int) - 2)) (cix cs ((i : Int) - 1)) (cix cs (i : Int)) = true ∨ ∃ j : Nat, i + 2 ≤ j ∧ j < cs.length ∧ j + 1 < cs.length + i ∧ smI cs i j = true
theorem ci_iff (cs : List PT) : ciB cs = true ↔ ∃ i, i < cs.length ∧ badI cs i := by
  unfold ciB badI
  simp only [List.any_eq_true, List.mem_range, Bool.or_eq_true, Bool.and_eq_true, decide_eq_true_eq]
  constructor
  · rintro ⟨i, hi, h | ⟨j, hj, h1, h2, h3⟩⟩
    · exact ⟨i, hi, .inl h⟩
    · exact ⟨i, hi, .inr ⟨j, h1, hj, h2, h3⟩⟩
  · rintro ⟨i, hi, h | ⟨j, h1, hj, h2, h3⟩⟩
    · exact ⟨i, hi, .inl h⟩
    · exact ⟨i, hi, .inr ⟨j, hj, h1, h2, h3⟩⟩
section
variable {E : EndD} {Y : XS} {S : Sto} {cs : List PT}
theorem ci_inner (hb : BR cs) (hn : 3 ≤ cs.length) {i : Nat} (hi : i < cs.length) (h1 : (∃ j : Nat, i + 2 ≤ j ∧ j < cs.length ∧ j + 1 < cs.length + i ∧ smI cs i j = true) → E.rt (.bl true) S) :
    ∀ (k j : Nat) (z4 : Option D), i + 2 ≤ j → (j + k = cs.length ∨ (k = 0 ∧ cs.length ≤ j)) → (∀ j' : Nat, i + 2 ≤ j' → j' < j → ¬ (j' + 1 < cs.length + i ∧ smI cs i j' = true)) → ((¬ ∃ j : Nat, i + 2 ≤ j ∧ j < cs.length ∧ j + 1 < cs.length + i ∧ smI cs i j = true) → ∀ z, E.nx [some (RG cs), some (.int (i : Int)), some (sdD cs), some (.int (cs.length : Nat)), z] S) →
    loopD (gVar 4) w_crosses_itself_2 E Y (intsD (j : Int) k) [some (RG cs), some (.int (i : Int)), some (sdD cs), some (.int (cs.length : Nat)), z4] S
  | 0, j, z4, hj, hk, hno, h2 => by
    refine h2 ?_ z4
    rintro ⟨j', a, b, c, d⟩
    exact hno j' a (by omega) ⟨c, d⟩
  | k + 1, j, z4, hj, hk, hno, h2 => by
    have hjn : j < cs.length := by omega
    have hp : 0 < cs.length := by omega
    rw [ints_cons]
    simp only [xloop, g4, w_crosses_itself_2, xsif, xandB, xbl, xtru, x2, xcall, xcons, xnil, v1, v2, v3, v4, xc, osubI, ocmpI]
    by_cases hc : (j : Int) - i < (cs.length : Nat) - 1
    · rw [if_pos (decide_eq_true hc), ix_sd hi, ix_sd hjn]
      refine k_smeet (bp_cix hb hp _) (bp_cix hb hp _) (bp_cix hb hp _) (bp_cix hb hp _) ?_
      by_cases hm : smI cs i j = true
      · have hm' : smB (cix cs (i : Int)) (cix cs ((i : Int) + 1)) (cix cs (j : Int)) (cix cs ((j : Int) + 1)) = true := hm
        simp only [hm', if_true, w_crosses_itself_1, xret, xc]
        exact h1 ⟨j, hj, hjn, by omega, hm⟩
      · have hm' : smB (cix cs (i : Int)) (cix cs ((i : Int) + 1)) (cix cs (j : Int)) (cix cs ((j : Int) + 1)) = false := by simpa [smI] using hm
        simp only [hm', Bool.false_eq_true, if_false, xskip]
        rw [show (j : Int) + 1 = ((j + 1 : Nat) : Int) by clear h1 h2 hno; omega]
        refine ci_inner hb hn hi h1 k (j + 1) _ (Nat.le_succ_of_le hj) (.inl (by clear h1 h2 hno; omega)) (fun j' a b => ?_) h2
        by_cases e : j' = j
        · subst e; exact fun z => hm z.2
        · exact hno j' a (by omega)
    · rw [if_neg (by simpa using hc)]
      simp only [Bool.false_eq_true, if_false, xskip]
      rw [show (j : Int) + 1 = ((j + 1 : Nat) : Int) by clear h1 h2 hno; omega]
      refine ci_inner hb hn hi h1 k (j + 1) _ (Nat.le_succ_of_le hj) (.inl (by clear h1 h2 hno; omega)) (fun j' a b => ?_) h2
      by_cases e : j' = j
      · subst e; exact fun z => hc (by omega)
      · exact hno j' a (by omega)
theorem ci_outer (hb : BR cs) (hn : 3 ≤ cs.length) (h1 : (∃ i, i < cs.length ∧ badI cs i) → E.rt (.bl true) S) :
    ∀ (k i : Nat) (z1 z4 : Option D), i + k = cs.length → (∀ i' : Nat, i' < i → ¬ badI cs i') → ((¬ ∃ i, i < cs.length ∧ badI cs i) → ∀ y z, E.nx [some (RG cs), y, some (sdD cs), some (.int (cs.length : Nat)), z] S) →
    loopD (gVar 1) w_crosses_itself_6 E Y (intsD (i : Int) k) [some (RG cs), z1, some (sdD cs), some (.int (cs.length : Nat)), z4] S
  | 0, i, z1, z4, hk, hno, h2 => by
    refine h2 ?_ z1 z4
    rintro ⟨i', a, b⟩
    exact hno i' (by omega) b
  | k + 1, i, z1, z4, hk, hno, h2 => by
    have hi : i < cs.length := by omega
    have hp : 0 < cs.length := by omega
    rw [ints_cons]
    simp only [xloop, g1, w_crosses_itself_6, xseq, w_crosses_itself_5, xsif, xtru, xcall, xcons, xnil, x2, v0, v1, xc, osubI]
    rw [ix_rg (by omega) (by omega), ix_rg (by omega) (by omega), ix_rg (by omega) (by omega)]
    refine k_tback (bp_cix hb hp _) (bp_cix hb hp _) (bp_cix hb hp _) ?_
    by_cases ht : tbB (cix cs ((i : Int) - 2)) (cix cs ((i : Int) - 1)) (cix cs (i : Int)) = true
    · simp only [ht, if_true, w_crosses_itself_4, xret, xc]
      exact h1 ⟨i, hi, .inl ht⟩
    · have ht' : tbB (cix cs ((i : Int) - 2)) (cix cs ((i : Int) - 1)) (cix cs (i : Int)) = false := by simpa using ht
      simp only [ht', Bool.false_eq_true, if_false, xskip, w_crosses_itself_3, xfor, xrng2, xcons, xnil, x2, v1, v3, xc, oaddI]
      rw [show (i : Int) + 2 = ((i + 2 : Nat) : Int) by omega, show (((cs.length : Nat) : Int) - ((i + 2 : Nat) : Int)).toNat = cs.length - (i + 2) by omega]
      have hl := hb.1
      refine ⟨by omega, ?_⟩
      have ek : i + 2 + (cs.length - (i + 2)) = cs.length ∨ (cs.length - (i + 2) = 0 ∧ cs.length ≤ i + 2) := by clear h1 h2 hno; omega
      refine ci_inner hb hn hi ?_ (cs.length - (i + 2)) (i + 2) z4 (Nat.le_refl _) ek (fun j' a b => absurd b (by clear h1 h2 hno; omega)) fun hno2 z => ?_
      · exact fun hh => h1 ⟨i, hi, .inr hh⟩
      rw [show (i : Int) + 1 = ((i + 1 : Nat) : Int) by omega]
      refine ci_outer hb hn h1 k (i + 1) _ z (by omega) (fun i' hi' => ?_) h2
      by_cases e : i' = i
      · subst e
        rintro (z | z)
        · exact ht z
        · exact hno2 z
      · exact hno i' (by omega)
end
theorem does_crosses_itself : Does c_crosses_itself w_crosses_itself N_crosses_itself 1 := by
  rintro ds S P X ⟨cs, rfl, hn, hb, h⟩
  refine ⟨rfl, ?_⟩
  have hne : cs ≠ [] := fun z => by rw [z] at hn; simp at hn
  have hl := hb.1
  show w_crosses_itself_10 _ _ [some (RG cs), none, none, none, none] S
  simp only [w_crosses_itself_10, xseq, w_crosses_itself_9, xpar2, xcons, xnil, xcall, xn, v0]
  refine k_sides hne hl ?_
  simp only [len_rg, List.set_cons_succ, List.set_cons_zero, w_crosses_itself_8, xseq, w_crosses_itself_7, xfor, xrngA, xcons, xnil, v3]
  refine ⟨by omega, ?_⟩
  rw [Int.toNat_natCast]
  refine ci_outer hb hn (fun hh => ?_) cs.length 0 _ _ (by omega) (fun _ z => absurd z (Nat.not_lt_zero _)) fun hno y z => ?_
  · rw [(ci_iff cs).mpr hh] at h
    exact ⟨S, Sub.refl _, h⟩
  · simp only [w_crosses_itself_0, xret, xc]
    have : ciB cs = false := by rw [← Bool.not_eq_true]; exact fun z => hno ((ci_iff cs).mp z)
    rw [this] at h
    exact ⟨S, Sub.refl _, h⟩
/-! walks: where a value is no ring -/
theorem nrl_di : ∀ cs : List PT, norefL (cs.map DI) = true
  | [] => rfl
  | c :: cs => by simp [norefL, noref, DI, nrl_di cs]
theorem nr_di (c : PT) : noref (DI c) = true := id rfl
theorem nr_rg (cs : List PT) : noref (RG cs) = true := nrl_di cs
theorem lay_di : ∀ cs : List PT, PyData.canLayAll0 (toPL (cs.map DI)) = true
  | [] => rfl
  | c :: cs => by simp [toPL, toP, DI, PyData.canLayAll0, PyData.canLay0, lay_di cs]
theorem dep_di : ∀ cs : List PT, PyData.depthAll (toPL (cs.map DI)) ≤ 2
  | [] => by simp [toPL, PyData.depthAll]
  | c :: cs => by
    have := dep_di cs
    simp only [List.map_cons, toPL, toP, DI, PyData.depthAll, PyData.depth]
    omega
theorem ok_rg (cs : List PT) : okD (RG cs) = true := by
  have h3 := dep_di cs
  unfold okD SeqAt.shaped
  rw [nr_rg]
  simp only [RG, toP, PyData.canLay0, lay_di, PyData.depth, Bool.true_and, decide_eq_true_eq]
  omega
theorem ok_di (c : PT) : okD (DI c) = true := by
  unfold okD SeqAt.shaped
  rw [nr_di]
  simp [DI, toP, toPL, PyData.canLay0, PyData.canLayAll0, PyData.depth, PyData.depthAll]
theorem in_rg {c : PT} {cs : List PT} {S : Sto} {P : PD} (k : P (.bl (decide (c ∈ cs))) S) : oIn (DI c) (RG cs) S P :=
  ⟨cs.map DI, rfl, ok_di c, ok_rg cs, by
    show P (.bl ((toPL (cs.map DI)).any fun z => PyData.eqv z (toP (DI c)))) S
    rw [any_DI]; exact k⟩
def enF (n : Nat) (ys : List D) : List D := ys.mapIdx fun i d => .tup [.int ((n + i : Nat) : Int), d]
theorem enF_cons (n : Nat) (y : D) (ys : List D) : enF n (y :: ys) = .tup [.int (n : Nat), y] :: enF (n + 1) ys := by
  unfold enF
  rw [List.mapIdx_cons]
  refine congr (congrArg _ rfl) ?_
  congr 1
  funext i d
  rw [show n + (i + 1) = n + 1 + i by omega]
theorem enF_0 (ys : List D) : enumD ys = enF 0 ys := by
  unfold enF enumD
  congr 1
  funext i d
  rw [Nat.zero_add]
theorem cor_some {d : D} {c : PT} (h : cor d = some c) : d = DI c ∧ c.1.natAbs ≤ 1000 ∧ c.2.natAbs ≤ 1000 := by
  unfold cor at h
  split at h
  · split at h
    · rename_i hb
      cases h
      exact ⟨rfl, hb⟩
    · cases h
  · cases h
theorem take_pre (pre : List PT) (ys : List D) : (pre.map DI ++ ys).take pre.length = pre.map DI := by
  rw [List.take_append_of_le_length (by rw [List.length_map]; exact Nat.le_refl _), List.take_of_length_le (by rw [List.length_map]; exact Nat.le_refl _)]
section
variable {E : EndD} {Y : XS} {S : Sto} {xs : List D}
theorem rf_loop : ∀ (ys : List D) (pre : List PT) (z1 z2 : Option D), xs = pre.map DI ++ ys → norefL ys = true →
    (∀ k, scan pre ys = .inl k → E.rt (.int (k : Nat)) S) → (∀ cs, scan pre ys = .inr cs → ∀ z1 z2, E.nx [some (.tup xs), z1, z2] S) →
    loopD (gTupD 2 (gConsD (gVar 1) (gConsD (gVar 2) gNilD))) w_ring_fault_2 E Y (enF pre.length ys) [some (.tup xs), z1, z2] S
  | [], pre, z1, z2, hx, hn, h1, h2 => h2 pre rfl z1 z2
  | y :: ys, pre, z1, z2, hx, hn, h1, h2 => by
    obtain ⟨ny, nys⟩ := nr_cons hn
    rw [enF_cons]
    simp only [xloop]
    show gTupD 2 (gConsD (gVar 1) (gConsD (gVar 2) gNilD)) (.tup [.int (pre.length : Nat), y]) _ _ _ _
    rw [g2p]
    simp only [List.set_cons_succ, List.set_cons_zero, w_ring_fault_2, xsif, xorB, xnotB, xtru, xcall, xcons, xnil, v2]
    refine k_icor ny ?_
    cases hc : cor y with
    | none =>
      simp only [Option.isSome_none, Bool.not_false, if_true, w_ring_fault_1, xret, v1]
      refine h1 _ ?_
      rw [scan, hc]
    | some c =>
      obtain ⟨rfl, hb⟩ := cor_some hc
      simp only [Option.isSome_some, Bool.not_true, Bool.false_eq_true, if_false, xbl, x2, slT, v0, v1, v2]
      rw [osl_to, hx, take_pre]
      refine in_rg ?_
      by_cases hm : c ∈ pre
      · simp only [decide_eq_true hm, if_true, w_ring_fault_1, xret, v1]
        refine h1 _ ?_
        rw [scan, hc]
        exact if_pos hm
      · simp only [decide_eq_false hm, Bool.false_eq_true, if_false, xskip]
        have es : scan pre (DI c :: ys) = scan (pre ++ [c]) ys := by
          rw [scan, hc]
          exact if_neg hm
        rw [es] at h1 h2
        rw [← hx]
        have := rf_loop ys (pre ++ [c]) (some (.int (pre.length : Nat))) (some (DI c)) (by rw [hx]; simp) nys h1 h2
        rw [List.length_append, List.length_singleton] at this
        exact this
end
theorem scan_inr : ∀ (xs : List D) (pre cs : List PT), scan pre xs = .inr cs → pre.Nodup → pre.map DI ++ xs = cs.map DI ∧ cs.Nodup
  | [], pre, cs, h, hn => by
    cases h
    exact ⟨List.append_nil _, hn⟩
  | d :: ds, pre, cs, h, hn => by
    rw [scan] at h
    cases hc : cor d with
    | none => rw [hc] at h; cases h
    | some c =>
      rw [hc] at h
      simp only at h
      by_cases hm : c ∈ pre
      · rw [if_pos hm] at h; cases h
      · rw [if_neg hm] at h
        obtain ⟨rfl, _⟩ := cor_some hc
        have hn2 : (pre ++ [c]).Nodup := by
          rw [List.nodup_append]
          refine ⟨hn, by simp, fun a ha b hb => ?_⟩
          rw [List.mem_singleton] at hb
          subst hb
          exact fun z => hm (z ▸ ha)
        obtain ⟨k1, k2⟩ := scan_inr ds (pre ++ [c]) cs h hn2
        refine ⟨?_, k2⟩
        rw [← k1]; simp
theorem scan_all : ∀ (xs : List D) (pre cs : List PT), scan pre xs = .inr cs → (∀ c ∈ pre, c.1.natAbs ≤ 1000 ∧ c.2.natAbs ≤ 1000) → ∀ c ∈ cs, c.1.natAbs ≤ 1000 ∧ c.2.natAbs ≤ 1000
  | [], pre, cs, h, hb => by cases h; exact hb
  | d :: ds, pre, cs, h, hb => by
    rw [scan] at h
    cases hc : cor d with
    | none => rw [hc] at h; cases h
    | some c =>
      rw [hc] at h
      simp only at h
      by_cases hm : c ∈ pre
      · rw [if_pos hm] at h; cases h
      · rw [if_neg hm] at h
        refine scan_all ds _ cs h fun x hx => ?_
        rcases List.mem_append.mp hx with z | z
        · exact hb x z
        · rw [List.mem_singleton.mp z]; exact (cor_some hc).2
theorem br_scan {xs : List D} {cs : List PT} (hl : xs.length ≤ 200) (h : scan [] xs = .inr cs) : xs = cs.map DI ∧ cs.Nodup ∧ BR cs := by
  obtain ⟨h1, h2⟩ := scan_inr xs [] cs h List.nodup_nil
  rw [List.map_nil, List.nil_append] at h1
  refine ⟨h1, h2, ?_, fun c hc => ?_⟩
  · rw [h1, List.length_map] at hl; exact hl
  · exact bp (scan_all xs [] cs h (fun _ z => by cases z) c hc) (by decide)
theorem len_tup2 {xs : List D} {S : Sto} {P : PD} : oLen [.tup xs] S P = P (.int (xs.length : Nat)) S := id rfl
theorem not_tup {d : D} (h : isTy .tuple d = false) : rfD d = .int (-1) := by
  cases d <;> first | rfl | cases h
theorem is_tup {d : D} (h : isTy .tuple d = true) : ∃ xs, d = .tup xs := by
  cases d with
  | tup xs => exact ⟨xs, rfl⟩
  | _ => cases h
theorem does_ring_fault : Does c_ring_fault w_ring_fault N_ring_fault 1 := by
  rintro ds S P X ⟨d, rfl, hv, h⟩
  refine ⟨rfl, ?_⟩
  show w_ring_fault_7 _ _ [some d, none, none] S
  simp only [w_ring_fault_7, xseq, w_ring_fault_6, xsif, xorB, xnotB, xtru, xisT, v0]
  refine ⟨okT_nr hv.nr, ?_⟩
  by_cases ht : isTy .tuple d = true
  · obtain ⟨xs, rfl⟩ := is_tup ht
    have hl := hv.len xs rfl
    simp only [ht, Bool.not_true, Bool.false_eq_true, if_false, xbl, x2, xn, xcons, xnil, v0, xc, len_tup2, k_FEWEST, ocmpI]
    by_cases h3 : xs.length < 3
    · have e : rfD (.tup xs) = .int (-1) := if_pos h3
      rw [e] at h
      have : (decide ((xs.length : Int) < 3)) = true := decide_eq_true (by omega)
      simp only [this, if_true, w_ring_fault_5, xret, x1, xc, onegI]
      exact ⟨S, Sub.refl _, h⟩
    · have : (decide ((xs.length : Int) < 3)) = false := decide_eq_false (by omega)
      simp only [this, Bool.false_eq_true, if_false, xskip, w_ring_fault_4, xseq, w_ring_fault_3, xfor, xenum, xcons, xnil, v0]
      show loopD _ _ _ _ (enumD xs) _ _
      rw [enF_0]
      refine rf_loop xs [] none none (by simp) (nr_tup hv.nr) (fun k hk => ?_) fun cs hk z1 z2 => ?_
      · have e : rfD (.tup xs) = .int (k : Nat) := by
          show (if xs.length < 3 then _ else _) = _
          rw [if_neg h3, hk]
        rw [e] at h
        exact ⟨S, Sub.refl _, h⟩
      · obtain ⟨rfl, hnd, hbr⟩ := br_scan hl hk
        have e : rfD (.tup (cs.map DI)) = if ciB cs = true then .int (cs.map DI).length else .non := by
          show (if (cs.map DI).length < 3 then _ else _) = _
          rw [if_neg h3, hk]
        rw [e] at h
        simp only [w_ring_fault_0, xret, xif, xtru, xcall, xcons, xnil, v0]
        refine ⟨cs, rfl, by rw [List.length_map] at h3; omega, hbr, ?_⟩
        by_cases hc : ciB cs = true
        · rw [if_pos hc] at h
          simp only [hc, if_true, xn, xcons, xnil, v0, len_tup2]
          exact ⟨S, Sub.refl _, h⟩
        · rw [if_neg hc] at h
          have hc : ciB cs = false := by simpa using hc
          simp only [hc, Bool.false_eq_true, if_false, xc]
          exact ⟨S, Sub.refl _, h⟩
  · have ht : isTy .tuple d = false := by simpa using ht
    have e : rfD d = .int (-1) := not_tup ht
    rw [e] at h
    simp only [ht, Bool.not_false, if_true, w_ring_fault_5, xret, x1, xc, onegI]
    exact ⟨S, Sub.refl _, h⟩
theorem k_rf {d : D} {S : Sto} {P : PD} {X : PX} (hv : Val d) (k : P (rfD d) S) : c_ring_fault [d] S P X := ⟨d, rfl, hv, k⟩
theorem rf_cases (d : D) : rfD d = .non ∨ ∃ k : Int, rfD d = .int k ∧ -1 ≤ k ∧ (Val d → k ≤ 200) := by
  unfold rfD
  split
  · rename_i xs
    split
    · exact .inr ⟨-1, rfl, by decide, fun _ => by decide⟩
    · split
      · rename_i k hk
        refine .inr ⟨k, rfl, by omega, fun hv => ?_⟩
        have hl := hv.len xs rfl
        have : ∀ (ys : List D) (pre : List PT) (k : Nat), scan pre ys = .inl k → k < pre.length + ys.length := by
          intro ys
          induction ys with
          | nil => intro pre k h; cases h
          | cons y ys ih =>
            intro pre k h
            rw [scan] at h
            cases hc : cor y with
            | none => rw [hc] at h; cases h; simp
            | some c =>
              rw [hc] at h
              simp only at h
              by_cases hm : c ∈ pre
              · rw [if_pos hm] at h; cases h; simp
              · rw [if_neg hm] at h
                have := ih _ _ h
                simp only [List.length_append, List.length_cons, List.length_nil] at this ⊢
                omega
        have := this xs [] k hk
        rw [List.length_nil] at this
        omega
      · split
        · exact .inr ⟨xs.length, rfl, by omega, fun hv => by have := hv.len xs rfl; omega⟩
        · exact .inl rfl
  · exact .inr ⟨-1, rfl, by decide, fun _ => by decide⟩
theorem does_is_ring : Does c_is_ring w_is_ring N_is_ring 1 := by
  rintro ds S P X ⟨d, rfl, hv, h⟩
  refine ⟨rfl, ?_⟩
  show w_is_ring _ _ [some d] S
  simp only [w_is_ring, xret, x2, xcall, xcons, xnil, v0]
  refine k_rf hv ?_
  simp only [xc, oisN]
  exact ⟨S, Sub.refl _, h⟩
/-! sums -/
def sm (f : Int → Int) (n : Nat) : Int := ((List.range n).map fun (k : Nat) => f (k : Int)).sum
theorem sm_zero (f : Int → Int) : sm f 0 = 0 := id rfl
theorem sm_succ (f : Int → Int) (n : Nat) : sm f (n + 1) = sm f n + f (n : Int) := by
  unfold sm
  rw [List.range_succ, List.map_append, List.sum_append]
  simp
theorem sm_congr {f g : Int → Int} {n : Nat} (h : ∀ k : Nat, k < n → f (k : Int) = g (k : Int)) : sm f n = sm g n := by
  unfold sm
  congr 1
  exact List.map_congr_left fun k hk => h k (List.mem_range.mp hk)
theorem sm_cons (f : Int → Int) : ∀ n : Nat, sm f (n + 1) = f 0 + sm (fun k => f (k + 1)) n
  | 0 => by rw [sm_succ, sm_zero, sm_zero]; simp
  | n + 1 => by
    rw [sm_succ, sm_cons f n, sm_succ, show ((n + 1 : Nat) : Int) = (n : Int) + 1 by omega]
    omega
theorem sm_pos {f : Int → Int} : ∀ {n : Nat}, 0 < n → (∀ k : Nat, k < n → 0 < f (k : Int)) → 0 < sm f n
  | 1, _, h => by rw [sm_succ, sm_zero]; have := h 0 (by decide); omega
  | n + 2, _, h => by
    rw [sm_succ]
    have := sm_pos (f := f) (n := n + 1) (by omega) fun k hk => h k (by omega)
    have := h (n + 1) (by omega)
    omega
theorem sm_shift (f : Int → Int) (n : Nat) (h : f (n : Int) = f 0) : sm (fun k => f (k + 1)) n = sm f n := by
  have := sm_cons f n
  rw [sm_succ] at this
  omega
theorem sm_shiftN (n : Nat) : ∀ (m : Nat) (f : Int → Int), (∀ k, f (k + n) = f k) → sm (fun k => f (k + m)) n = sm f n
  | 0, f, h => sm_congr fun k _ => by simp
  | m + 1, f, h => by
    have h1 := sm_shiftN n m (fun k => f (k + 1)) fun k => by
      show f (k + n + 1) = f (k + 1)
      rw [← h (k + 1)]; congr 1; omega
    have h2 := sm_shift f n (by have := h 0; rwa [Int.zero_add] at this)
    rw [← h2, ← h1]
    refine sm_congr fun k _ => ?_
    show f ((k : Int) + ((m + 1 : Nat) : Int)) = f ((k : Int) + m + 1)
    congr 1
theorem sm_reflect : ∀ (n : Nat) (f : Int → Int), sm (fun k => f ((n : Int) - 1 - k)) n = sm f n
  | 0, f => rfl
  | n + 1, f => by
    rw [sm_cons, sm_succ, ← sm_reflect n f, Int.add_comm]
    have e : sm (fun k => f (((n + 1 : Nat) : Int) - 1 - (k + 1))) n = sm (fun k => f ((n : Int) - 1 - k)) n := sm_congr fun k _ => by
      show f _ = f _
      congr 1; omega
    rw [e]
    congr 2; omega
theorem sm_neg (f : Int → Int) : ∀ n : Nat, sm (fun k => 0 - f k) n = 0 - sm f n
  | 0 => rfl
  | n + 1 => by rw [sm_succ, sm_succ, sm_neg f n]; omega
theorem sm_tele (d : Int) (f p : Int → Int) : ∀ n : Nat, sm (fun k => d * f k + (p (k + 1) - p k)) n = d * sm f n + (p (n : Int) - p 0)
  | 0 => by rw [sm_zero, sm_zero]; simp
  | n + 1 => by
    rw [sm_succ, sm_succ, sm_tele d f p n, Int.mul_add, show ((n + 1 : Nat) : Int) = (n : Int) + 1 by omega]
    omega
/-! rings that are simple: how they are made -/
theorem simple_long {cs : List PT} (hl : 3 ≤ cs.length) (ap : ∀ i j : Nat, i < cs.length → j < cs.length → i ≠ j → ¬ Sh (cix cs (i : Int)) (cix cs ((i : Int) + 1)) (cix cs (j : Int)) (cix cs ((j : Int) + 1))) : Simple cs := by
  refine ⟨hl, ap, fun i hi z => ?_⟩
  by_cases h : i + 1 < cs.length
  · refine ap i (i + 1) hi h (by omega) ?_
    rw [show ((i + 1 : Nat) : Int) = (i : Int) + 1 by omega, ← z]
    exact ⟨1, 0, 1, 0, by decide, by decide, by decide, by decide, rfl, by omega, by omega⟩
  · refine ap i 0 hi (by omega) (by omega) ?_
    have e : cix cs ((0 : Nat) : Int) = cix cs ((i : Int) + 1) := by
      rw [← cix_sub cs ((i : Int) + 1)]; congr 1; omega
    rw [e, ← z]
    exact ⟨1, 0, 1, 0, by decide, by decide, by decide, by decide, rfl, by omega, by omega⟩
/-- by a relation that tells each point's side -/
theorem simple_rel {cs : List PT} (hl : 3 ≤ cs.length) (L : Nat → Int → Int → Int → Prop)
    (h1 : ∀ i : Nat, i < cs.length → ∀ u v : Int, 0 < u → 0 ≤ v → L i (u + v) (u * (cix cs (i : Int)).1 + v * (cix cs ((i : Int) + 1)).1) (u * (cix cs (i : Int)).2 + v * (cix cs ((i : Int) + 1)).2))
    (h2 : ∀ (i j : Nat) (t x y : Int), i < j → j < cs.length → 0 < t → L i t x y → ¬ L j t x y) : Simple cs := by
  refine simple_long hl fun i j hi hj hij ⟨u, v, x, y, a, b, c, d, e, f, g⟩ => ?_
  have k1 := h1 i hi u v a b
  have k2 := h1 j hj x y c d
  rw [← e, ← f, ← g] at k2
  rcases Nat.lt_or_gt_of_ne hij with q | q
  · exact h2 i j _ _ _ q hj (by omega) k1 k2
  · exact h2 j i _ _ _ q hi (by omega) k2 k1
/-! rotated, turned, put elsewhere -/
theorem cix_eq {cs : List PT} (hn : 0 < cs.length) (k : Int) : ∃ (r : Nat) (h : r < cs.length), (r : Int) = k % (cs.length : Int) ∧ cix cs k = cs[r] := by
  have a0 := Int.emod_nonneg k (show (cs.length : Int) ≠ 0 by omega)
  have a1 := Int.emod_lt_of_pos k (show (0 : Int) < cs.length by omega)
  refine ⟨(k % (cs.length : Int)).toNat, by omega, by omega, ?_⟩
  unfold cix
  exact getD_at (by omega)
theorem cix_of {cs : List PT} {k : Int} {r : Nat} (h : r < cs.length) (e : (r : Int) = k % (cs.length : Int)) : cix cs k = cs[r] := by
  unfold cix
  rw [← e, Int.toNat_natCast]
  exact getD_at h
theorem emod_shift {n k m : Int} (h0 : 0 ≤ m) (h1 : m < n) (q : Int) (e : k = m + n * q) : k % n = m := by
  rw [e, Int.add_mul_emod_self_left, Int.emod_eq_of_lt h0 h1]
theorem cix_rot (xs ys : List PT) (hn : 0 < xs.length + ys.length) (k : Int) : cix (ys ++ xs) k = cix (xs ++ ys) (k + xs.length) := by
  obtain ⟨r, hr, e, c⟩ := cix_eq (cs := ys ++ xs) (by rw [List.length_append]; omega) k
  rw [c]
  have hl : ((ys ++ xs).length : Int) = (xs.length : Int) + ys.length := by rw [List.length_append]; omega
  have hl2 : ((xs ++ ys).length : Int) = (xs.length : Int) + ys.length := by rw [List.length_append]; omega
  have hd := Int.mul_ediv_add_emod k ((ys ++ xs).length : Int)
  have hr2 : r < ys.length + xs.length := by rw [← List.length_append]; exact hr
  rw [← e, hl] at hd
  by_cases h : r < ys.length
  · have k2 : ((xs.length + r : Nat) : Int) = (k + xs.length) % ((xs ++ ys).length : Int) := by
      rw [hl2]
      exact (emod_shift (by omega) (by omega) (k / ((xs.length : Int) + ys.length)) (by push_cast; omega)).symm
    rw [cix_of (by rw [List.length_append]; omega) k2, List.getElem_append_left h, List.getElem_append_right (by omega)]
    congr 1; omega
  · have k2 : ((r - ys.length : Nat) : Int) = (k + xs.length) % ((xs ++ ys).length : Int) := by
      rw [hl2]
      refine (emod_shift (by omega) (by omega) (k / ((xs.length : Int) + ys.length) + 1) ?_).symm
      rw [Int.mul_add]
      omega
    rw [cix_of (by rw [List.length_append]; omega) k2, List.getElem_append_right (as := ys) (bs := xs) (by omega), List.getElem_append_left (as := xs) (bs := ys) (by omega)]
theorem simple_rot {xs ys : List PT} (h : Simple (xs ++ ys)) : Simple (ys ++ xs) := by
  have hl := h.len
  have hl3 : (ys ++ xs).length = (xs ++ ys).length := by rw [List.length_append, List.length_append]; omega
  have hn : 0 < xs.length + ys.length := by rw [List.length_append] at hl; omega
  refine simple_long (by rw [hl3]; exact hl) fun i j hi hj hij => ?_
  rw [cix_rot xs ys hn, cix_rot xs ys hn, cix_rot xs ys hn, cix_rot xs ys hn]
  have := h.anyI (i := (i : Int) + xs.length) (j := (j : Int) + xs.length) (by
    rw [hl3] at hi hj
    rcases Nat.lt_or_gt_of_ne hij with q | q
    · exact emod_ne (by omega) (by omega) (by omega)
    · exact (emod_ne (by omega) (by omega) (by omega)).symm)
  rw [show (i : Int) + 1 + xs.length = (i : Int) + xs.length + 1 by omega, show (j : Int) + 1 + xs.length = (j : Int) + xs.length + 1 by omega]
  exact this
theorem cix_rev (cs : List PT) (hn : 0 < cs.length) (k : Int) : cix cs.reverse k = cix cs (-1 - k) := by
  obtain ⟨r, hr, e, c⟩ := cix_eq (cs := cs.reverse) (by rw [List.length_reverse]; omega) k
  rw [c]
  have hd := Int.mul_ediv_add_emod k (cs.reverse.length : Int)
  rw [← e, List.length_reverse] at hd
  rw [List.length_reverse] at hr
  have k2 : ((cs.length - 1 - r : Nat) : Int) = (-1 - k) % (cs.length : Int) := by
    refine (emod_shift (by omega) (by omega) (-(k / (cs.length : Int)) - 1) ?_).symm
    rw [Int.mul_sub, Int.mul_neg]
    omega
  rw [cix_of (by omega) k2, List.getElem_reverse]
theorem simple_rev {cs : List PT} (h : Simple cs) : Simple cs.reverse := by
  have hl := h.len
  have hn : 0 < cs.length := by omega
  have lon : ∀ k : Int, cix cs k ≠ cix cs (k + 1) := cix_ne (simple_nodup h) hl
  refine simple_long (by rw [List.length_reverse]; exact hl) fun i j hi hj hij => ?_
  rw [cix_rev cs hn, cix_rev cs hn, cix_rev cs hn, cix_rev cs hn]
  rw [List.length_reverse] at hi hj
  -- the sides are those that begin at p - 1 and q - 1
  have key : ∀ p q : Int, p % (cs.length : Int) ≠ q % (cs.length : Int) → (p + 1) % (cs.length : Int) ≠ (q + 1) % (cs.length : Int) → ¬ Sh (cix cs (p + 1)) (cix cs p) (cix cs (q + 1)) (cix cs q) := by
    rintro p q hpq hpq1 ⟨u, v, x, y, a, b, c, d, e, f, g⟩
    by_cases hv : v = 0
    · by_cases hy : y = 0
      · refine h.anyI hpq1 ⟨u, 0, x, 0, a, by decide, c, by decide, by omega, ?_, ?_⟩
        · rw [hv, hy] at f; omega
        · rw [hv, hy] at g; omega
      · by_cases hs : (p + 1) % (cs.length : Int) = q % (cs.length : Int)
        · have e1 : cix cs (p + 1) = cix cs q := by unfold cix; rw [hs]
          rw [e1, hv] at f g
          have ux : u = x + y := by omega
          have z1 : x * ((cix cs q).1 - (cix cs (q + 1)).1) = 0 := by rw [ux] at f; grind
          have z2 : x * ((cix cs q).2 - (cix cs (q + 1)).2) = 0 := by rw [ux] at g; grind
          refine lon q (Prod.ext ?_ ?_)
          · rcases Int.mul_eq_zero.mp z1 with z | z <;> omega
          · rcases Int.mul_eq_zero.mp z2 with z | z <;> omega
        · refine h.anyI hs ⟨u, 0, y, x, a, by decide, by omega, by omega, by omega, ?_, ?_⟩
          · rw [hv] at f; omega
          · rw [hv] at g; omega
    · by_cases hy : y = 0
      · by_cases hs : (q + 1) % (cs.length : Int) = p % (cs.length : Int)
        · have e1 : cix cs (q + 1) = cix cs p := by unfold cix; rw [hs]
          rw [e1, hy] at f g
          have ux : x = u + v := by omega
          have z1 : u * ((cix cs p).1 - (cix cs (p + 1)).1) = 0 := by rw [ux] at f; grind
          have z2 : u * ((cix cs p).2 - (cix cs (p + 1)).2) = 0 := by rw [ux] at g; grind
          refine lon p (Prod.ext ?_ ?_)
          · rcases Int.mul_eq_zero.mp z1 with z | z <;> omega
          · rcases Int.mul_eq_zero.mp z2 with z | z <;> omega
        · refine h.anyI (Ne.symm hs) ⟨v, u, x, 0, by omega, by omega, c, by decide, by omega, ?_, ?_⟩
          · rw [hy] at f; omega
          · rw [hy] at g; omega
      · exact h.anyI hpq ⟨v, u, y, x, by omega, by omega, by omega, by omega, by omega, by omega, by omega⟩
  have := key (-1 - ((i : Int) + 1)) (-1 - ((j : Int) + 1)) (by
    rcases Nat.lt_or_gt_of_ne hij with q | q
    · exact (emod_ne (by omega) (by omega) (by omega)).symm
    · exact emod_ne (by omega) (by omega) (by omega)) (by
    rcases Nat.lt_or_gt_of_ne hij with q | q
    · exact (emod_ne (by omega) (by omega) (by omega)).symm
    · exact emod_ne (by omega) (by omega) (by omega))
  rw [show -1 - ((i : Int) + 1) + 1 = -1 - (i : Int) by omega, show -1 - ((j : Int) + 1) + 1 = -1 - (j : Int) by omega] at this
  exact this
theorem cix_map (f : PT → PT) (cs : List PT) (hn : 0 < cs.length) (k : Int) : cix (cs.map f) k = f (cix cs k) := by
  obtain ⟨r, hr, e, c⟩ := cix_eq hn k
  rw [c, cix_of (r := r) (by rw [List.length_map]; exact hr) (by rw [List.length_map]; exact e), List.getElem_map]
theorem simple_put {a b c d e f : Int} {cs : List PT} (hr : a * d - b * c ≠ 0) (h : Simple cs) : Simple (cs.map (putP a b c d e f)) := by
  have hl := h.len
  have hn : 0 < cs.length := by omega
  refine simple_long (by rw [List.length_map]; exact hl) fun i j hi hj hij => ?_
  rw [List.length_map] at hi hj
  rw [cix_map _ _ hn, cix_map _ _ hn, cix_map _ _ hn, cix_map _ _ hn]
  have := h.apart i j hi hj hij
  generalize cix cs (i : Int) = p at *
  generalize cix cs ((i : Int) + 1) = q at *
  generalize cix cs (j : Int) = r at *
  generalize cix cs ((j : Int) + 1) = s at *
  rintro ⟨u, v, x, y, h1, h2, h3, h4, h5, h6, h7⟩
  unfold putP at h6 h7
  refine this ⟨u, v, x, y, h1, h2, h3, h4, h5, ?_, ?_⟩
  · have z : (a * d - b * c) * ((u * p.1 + v * q.1) - (x * r.1 + y * s.1)) = 0 := by grind
    rcases Int.mul_eq_zero.mp z with z | z <;> omega
  · have z : (a * d - b * c) * ((u * p.2 + v * q.2) - (x * r.2 + y * s.2)) = 0 := by grind
    rcases Int.mul_eq_zero.mp z with z | z <;> omega
/-- a point of a part of a side is one of the side -/
theorem sh_fst {a m b c d : PT} (m1 : 2 * m.1 = a.1 + b.1) (m2 : 2 * m.2 = a.2 + b.2) (h : Sh a m c d) : Sh a b c d := by
  obtain ⟨u, v, x, y, h1, h2, h3, h4, h5, h6, h7⟩ := h
  refine ⟨2 * u + v, v, 2 * x, 2 * y, by omega, by omega, by omega, by omega, by omega, ?_, ?_⟩
  · grind
  · grind
theorem sh_snd {a m b c d : PT} (m1 : 2 * m.1 = a.1 + b.1) (m2 : 2 * m.2 = a.2 + b.2) (h : Sh m b c d) : Sh a b c d := by
  obtain ⟨u, v, x, y, h1, h2, h3, h4, h5, h6, h7⟩ := h
  refine ⟨u, u + 2 * v, 2 * x, 2 * y, by omega, by omega, by omega, by omega, by omega, ?_, ?_⟩
  · grind
  · grind
theorem sh_parts {a m b : PT} (m1 : 2 * m.1 = a.1 + b.1) (m2 : 2 * m.2 = a.2 + b.2) (hab : a ≠ b) : ¬ Sh a m m b := by
  rintro ⟨u, v, x, y, h1, h2, h3, h4, h5, h6, h7⟩
  have z1 : (u + y) * (a.1 - b.1) = 0 := by grind
  have z2 : (u + y) * (a.2 - b.2) = 0 := by grind
  refine hab (Prod.ext ?_ ?_)
  · rcases Int.mul_eq_zero.mp z1 with z | z <;> omega
  · rcases Int.mul_eq_zero.mp z2 with z | z <;> omega
theorem cix_app (cs : List PT) (m : PT) (k : Nat) (h : k < cs.length) : cix (cs ++ [m]) (k : Int) = cix cs (k : Int) := by
  rw [cix_nat (by rw [List.length_append]; omega), cix_nat h, List.getElem_append_left h]
theorem cix_last (cs : List PT) (m : PT) : cix (cs ++ [m]) (cs.length : Int) = m := by
  rw [cix_nat (by rw [List.length_append, List.length_singleton]; omega), List.getElem_append_right (Nat.le_refl _)]
  simp
theorem simple_mid {cs : List PT} {m : PT} (h : Simple cs) (m1 : 2 * m.1 = (cix cs (-1)).1 + (cix cs 0).1) (m2 : 2 * m.2 = (cix cs (-1)).2 + (cix cs 0).2) : Simple (cs ++ [m]) := by
  have hl := h.len
  have hla : (cs ++ [m]).length = cs.length + 1 := by rw [List.length_append, List.length_singleton]
  have el : cix cs (-1) = cix cs ((cs.length - 1 : Nat) : Int) := by rw [← cix_mod]; congr 1; omega
  have ez : cix cs 0 = cix cs (((cs.length - 1 : Nat) : Int) + 1) := by rw [← cix_sub cs (((cs.length - 1 : Nat) : Int) + 1)]; congr 1; omega
  have e0 : cix (cs ++ [m]) 0 = cix cs 0 := cix_app cs m 0 (by omega)
  have en : cix (cs ++ [m]) ((cs.length : Int) + 1) = cix cs 0 := by
    rw [← e0, ← cix_sub (cs ++ [m]) ((cs.length : Int) + 1)]; congr 1; omega
  have lon := h.long (cs.length - 1) (by omega)
  rw [← ez, ← el] at lon
  -- what a side of the longer ring is
  have part : ∀ i : Nat, i < cs.length + 1 → ∀ c d : PT, Sh (cix (cs ++ [m]) (i : Int)) (cix (cs ++ [m]) ((i : Int) + 1)) c d → Sh (cix cs ((min i (cs.length - 1) : Nat) : Int)) (cix cs (((min i (cs.length - 1) : Nat) : Int) + 1)) c d := by
    intro i hi c d hh
    by_cases h1 : i + 1 < cs.length
    · rw [cix_app cs m i (by omega), show (i : Int) + 1 = ((i + 1 : Nat) : Int) by omega, cix_app cs m (i + 1) h1] at hh
      rw [show min i (cs.length - 1) = i by omega]
      exact hh
    · by_cases h2 : i + 1 = cs.length
      · rw [cix_app cs m i (by omega), show (i : Int) + 1 = (cs.length : Int) by omega, cix_last, show i = cs.length - 1 by omega, ← el] at hh
        rw [show min i (cs.length - 1) = cs.length - 1 by omega, ← ez, ← el]
        exact sh_fst m1 m2 hh
      · have : i = cs.length := by omega
        subst this
        rw [cix_last, en] at hh
        rw [show min cs.length (cs.length - 1) = cs.length - 1 by omega, ← ez, ← el]
        exact sh_snd m1 m2 hh
  refine simple_long (by omega) fun i j hi hj hij hh => ?_
  rw [hla] at hi hj
  have k1 := part i hi _ _ hh
  have k2 := (part j hj _ _ k1.symm).symm
  by_cases hne : min i (cs.length - 1) = min j (cs.length - 1)
  · have two : ∀ i j : Nat, i = cs.length - 1 → j = cs.length → ¬ Sh (cix (cs ++ [m]) (i : Int)) (cix (cs ++ [m]) ((i : Int) + 1)) (cix (cs ++ [m]) (j : Int)) (cix (cs ++ [m]) ((j : Int) + 1)) := by
      rintro i j hi hj hh
      rw [hj, cix_last, en, cix_app cs m i (by omega), show (i : Int) + 1 = (cs.length : Int) by omega, cix_last, hi, ← el] at hh
      exact sh_parts m1 m2 lon hh
    rcases Nat.lt_or_gt_of_ne hij with q | q
    · exact two i j (by omega) (by omega) hh
    · exact two j i (by omega) (by omega) hh.symm
  · exact h.apart _ _ (by omega) (by omega) hne k2
/-- a mean put ahead of a corner -/
theorem simple_ins {xs ys : List PT} {b m : PT} (h : Simple (xs ++ b :: ys)) (m1 : 2 * m.1 = (cix (xs ++ b :: ys) ((xs.length : Int) - 1)).1 + b.1) (m2 : 2 * m.2 = (cix (xs ++ b :: ys) ((xs.length : Int) - 1)).2 + b.2) : Simple (xs ++ m :: b :: ys) := by
  have r1 := simple_rot h
  have hn : 0 < xs.length + (b :: ys).length := by rw [List.length_cons]; omega
  have e1 : cix (b :: ys ++ xs) (-1) = cix (xs ++ b :: ys) ((xs.length : Int) - 1) := by
    rw [cix_rot xs (b :: ys) hn, show (-1 : Int) + xs.length = xs.length - 1 by omega]
  have e2 : cix (b :: ys ++ xs) 0 = b := by
    have : cix (b :: ys ++ xs) ((0 : Nat) : Int) = b := by rw [cix_nat (by simp)]; rfl
    exact this
  have r2 := simple_mid (m := m) r1 (by rw [e1, e2]; exact m1) (by rw [e1, e2]; exact m2)
  have e3 : b :: ys ++ xs ++ [m] = (b :: ys) ++ (xs ++ [m]) := by simp
  rw [e3] at r2
  have r3 := simple_rot r2
  have e4 : xs ++ [m] ++ (b :: ys) = xs ++ m :: b :: ys := by simp
  rw [e4] at r3
  exact r3
/-! rings round a centre -/
def W (i : Nat) : PT := [(2, 0), (2, 1), (2, 2), (1, 2), (0, 2), (-1, 2), (-2, 2), (-2, 1), (-2, 0), (-2, -1), (-2, -2), (-1, -2), (0, -2), (1, -2), (2, -2), (2, -1)].getD (i % 16) (0, 0)
theorem W_mod (i : Nat) : W i = W (i % 16) := by unfold W; rw [Nat.mod_mod]
theorem W_mod1 (i g : Nat) : W (i + g) = W (i % 16 + g) := by unfold W; rw [Nat.mod_add_mod]
/-- on which side of a way -/
def cw (x y : Int) (i : Nat) : Int := (W i).1 * y - (W i).2 * x
def El (i : Nat) (x y : Int) : Prop := 0 ≤ cw x y i ∧ cw x y (i + 1) < 0
def oct (x y : Int) : Nat := if 2 * y < x then 0 else if y < x then 1 else if y < 2 * x then 2 else 3
def sec (x y : Int) : Nat := if 0 < x ∧ 0 ≤ y then oct x y else if 0 < y ∧ x ≤ 0 then 4 + oct y (-x) else if x < 0 ∧ y ≤ 0 then 8 + oct (-x) (-y) else 12 + oct (-y) x
theorem el_sec16 {i : Nat} {x y : Int} (hi : i < 16) (h : El i x y) : sec x y = i := by
  have : i = 0 ∨ i = 1 ∨ i = 2 ∨ i = 3 ∨ i = 4 ∨ i = 5 ∨ i = 6 ∨ i = 7 ∨ i = 8 ∨ i = 9 ∨ i = 10 ∨ i = 11 ∨ i = 12 ∨ i = 13 ∨ i = 14 ∨ i = 15 := by omega
  unfold El cw at h
  rcases this with rfl | rfl | rfl | rfl | rfl | rfl | rfl | rfl | rfl | rfl | rfl | rfl | rfl | rfl | rfl | rfl <;> simp [W] at h <;> unfold sec oct <;> (repeat' split) <;> omega
theorem el_sec {i : Nat} {x y : Int} (h : El i x y) : sec x y = i % 16 := by
  refine el_sec16 (Nat.mod_lt _ (by decide)) ?_
  unfold El cw at h ⊢
  rw [W_mod i, W_mod1 i 1] at h
  exact h
theorem cross16 : ∀ r < 16, ∀ g < 8, 0 < g → 0 < (W r).1 * (W (r + g)).2 - (W r).2 * (W (r + g)).1 := by decide +kernel
theorem crossW (i g : Nat) (h : g < 8) (h0 : 0 < g) : 0 < (W i).1 * (W (i + g)).2 - (W i).2 * (W (i + g)).1 := by
  rw [W_mod i, W_mod1 i g]
  exact cross16 _ (Nat.mod_lt _ (by decide)) g h h0
theorem first_neg (c : Nat → Int) (i : Nat) : ∀ n : Nat, 0 ≤ c i → c (i + n) < 0 → ∃ e, i ≤ e ∧ e < i + n ∧ 0 ≤ c e ∧ c (e + 1) < 0
  | 0, h0, h1 => by rw [Nat.add_zero] at h1; omega
  | n + 1, h0, h1 => by
    by_cases h : c (i + n) < 0
    · obtain ⟨e, a, b, p, q⟩ := first_neg c i n h0 h
      exact ⟨e, a, by omega, p, q⟩
    · exact ⟨i + n, by omega, by omega, by omega, h1⟩
theorem run_el {i j : Nat} {p q : Int} (h : i < j) (hj : j ≤ i + 7) (hp : 0 < p) (hq : 0 ≤ q) : ∃ e, i ≤ e ∧ e < j ∧ El e (p * (W i).1 + q * (W j).1) (p * (W i).2 + q * (W j).2) := by
  obtain ⟨g, rfl⟩ : ∃ g, j = i + g := ⟨j - i, by omega⟩
  have k := crossW i g (by omega) (by omega)
  obtain ⟨e, a, b, c, d⟩ := first_neg (cw (p * (W i).1 + q * (W (i + g)).1) (p * (W i).2 + q * (W (i + g)).2)) i g (by
    have := Int.mul_nonneg hq (show 0 ≤ (W i).1 * (W (i + g)).2 - (W i).2 * (W (i + g)).1 by omega)
    have e : cw (p * (W i).1 + q * (W (i + g)).1) (p * (W i).2 + q * (W (i + g)).2) i = q * ((W i).1 * (W (i + g)).2 - (W i).2 * (W (i + g)).1) := by unfold cw; grind
    rw [e]; exact this) (by
    have := Int.mul_pos hp k
    have e : cw (p * (W i).1 + q * (W (i + g)).1) (p * (W i).2 + q * (W (i + g)).2) (i + g) = 0 - p * ((W i).1 * (W (i + g)).2 - (W i).2 * (W (i + g)).1) := by unfold cw; grind
    rw [e]; omega)
  exact ⟨e, a, b, c, d⟩
def stP (s : Nat × Int) : PT := (s.2 * (W s.1).1, s.2 * (W s.1).2)
theorem star_simple (st : List (Nat × Int)) (hs : st.Pairwise fun a b => a.1 < b.1) (h16 : ∀ s ∈ st, s.1 < 16) (hf : ∀ s ∈ st, 0 < s.2) (hq : ∀ q : Nat, q < 4 → ∃ s ∈ st, 4 * q ≤ s.1 ∧ s.1 < 4 * q + 4) : Simple (st.map stP) ∧ 0 < arA (st.map stP) := by
  have mono : ∀ i j : Nat, (hi : i < st.length) → (hj : j < st.length) → i < j → st[i].1 < st[j].1 := fun i j hi hj hij => List.pairwise_iff_getElem.mp hs i j hi hj hij
  have qx : ∀ q : Nat, q < 4 → ∃ k, ∃ h : k < st.length, 4 * q ≤ st[k].1 ∧ st[k].1 < 4 * q + 4 := fun q hq4 => by
    obtain ⟨s, hm, a, b⟩ := hq q hq4
    obtain ⟨k, hk, rfl⟩ := List.getElem_of_mem hm
    exact ⟨k, hk, a, b⟩
  have anti : ∀ i j : Nat, (hi : i < st.length) → (hj : j < st.length) → st[i].1 < st[j].1 → i < j := fun i j hi hj h => by
    rcases Nat.lt_trichotomy i j with z | z | z
    · exact z
    · subst z; omega
    · have := mono j i hj hi z; omega
  obtain ⟨k0, l0, a0, b0⟩ := qx 0 (by decide)
  obtain ⟨k1, l1, a1, b1⟩ := qx 1 (by decide)
  obtain ⟨k2, l2, a2, b2⟩ := qx 2 (by decide)
  obtain ⟨k3, l3, a3, b3⟩ := qx 3 (by decide)
  have o1 := anti k0 k1 l0 l1 (by omega)
  have o2 := anti k1 k2 l1 l2 (by omega)
  have o3 := anti k2 k3 l2 l3 (by omega)
  have hn : 4 ≤ st.length := by omega
  have first : st[0].1 ≤ 3 := by
    by_cases z : k0 = 0
    · subst z; omega
    · have := mono 0 k0 (by omega) l0 (by omega); omega
  have last : 12 ≤ st[st.length - 1].1 := by
    by_cases z : k3 = st.length - 1
    · subst z; omega
    · have := mono k3 (st.length - 1) l3 (by omega) (by omega); omega
  -- the ways' numbers, the first once more at the end
  obtain ⟨dd, d1, d2⟩ : ∃ dd : Nat → Nat, (∀ i, (h : i < st.length) → dd i = st[i].1) ∧ dd st.length = st[0].1 + 16 :=
    ⟨fun i => if h : i < st.length then st[i].1 else st[0].1 + 16, fun i h => dif_pos h, dif_neg (Nat.lt_irrefl _)⟩
  have dm : ∀ i j : Nat, i < j → j ≤ st.length → dd i < dd j := fun i j hij hj => by
    by_cases z : j = st.length
    · subst z
      rw [d1 i hij, d2]
      have := h16 _ (List.getElem_mem hij)
      omega
    · rw [d1 i (by omega), d1 j (by omega)]
      exact mono i j (by omega) (by omega) hij
  have dg : ∀ i : Nat, i < st.length → dd (i + 1) ≤ dd i + 7 := fun i hi => by
    by_cases z : i + 1 = st.length
    · rw [z, d2, d1 i hi]
      have e : st[i].1 = st[st.length - 1].1 := by congr 2; omega
      omega
    · rw [d1 i hi, d1 (i + 1) (by omega)]
      have hm := mono i (i + 1) hi (by omega) (by omega)
      have hl := h16 _ (List.getElem_mem (show i + 1 < st.length by omega))
      refine Nat.le_of_not_lt fun z2 => ?_
      obtain ⟨k, hk, a, b⟩ := qx (st[i].1 / 4 + 1) (by omega)
      have c1 := anti i k hi hk (by omega)
      have c2 := anti k (i + 1) hk (by omega) (by omega)
      omega
  have hc : ∀ i : Nat, i ≤ st.length → ∃ f : Int, 0 < f ∧ cix (st.map stP) (i : Int) = (f * (W (dd i)).1, f * (W (dd i)).2) := fun i hi => by
    by_cases z : i = st.length
    · subst z
      refine ⟨st[0].2, hf _ (List.getElem_mem _), ?_⟩
      have e : cix (st.map stP) (st.length : Int) = cix (st.map stP) ((0 : Nat) : Int) := by
        rw [← cix_sub (st.map stP) (st.length : Int), List.length_map]; congr 1; omega
      rw [e, cix_nat (by rw [List.length_map]; omega), List.getElem_map, d2]
      have ew : W (st[0].1 + 16) = W st[0].1 := by unfold W; rw [Nat.add_mod_right]
      rw [ew]; rfl
    · refine ⟨st[i].2, hf _ (List.getElem_mem _), ?_⟩
      rw [cix_nat (by rw [List.length_map]; omega), List.getElem_map, d1 i (by omega)]
      rfl
  refine ⟨?_, ?_⟩
  rotate_left
  · show 0 < sm (fun k => crz (cix (st.map stP) k) (cix (st.map stP) (k + 1))) (st.map stP).length
    refine sm_pos (by rw [List.length_map]; omega) fun k hk => ?_
    rw [List.length_map] at hk
    obtain ⟨f, hf0, ef⟩ := hc k (by omega)
    obtain ⟨g, hg0, eg⟩ := hc (k + 1) (by omega)
    have e1 : cix (st.map stP) ((k : Int) + 1) = cix (st.map stP) ((k + 1 : Nat) : Int) := by congr 1
    rw [e1, ef, eg]
    have m1 := dm k (k + 1) (by omega) (by omega)
    have m2 := dg k hk
    obtain ⟨q, hq⟩ : ∃ q, dd (k + 1) = dd k + q := ⟨dd (k + 1) - dd k, by omega⟩
    have := Int.mul_pos (Int.mul_pos hf0 hg0) (crossW (dd k) q (by omega) (by omega))
    rw [hq]
    unfold crz
    dsimp only
    have e : f * (W (dd k)).1 * (g * (W (dd k + q)).2) - f * (W (dd k)).2 * (g * (W (dd k + q)).1) = f * g * ((W (dd k)).1 * (W (dd k + q)).2 - (W (dd k)).2 * (W (dd k + q)).1) := by grind
    rw [e]; exact this
  refine simple_rel (by rw [List.length_map]; omega) (fun i _ x y => ∃ e, dd i ≤ e ∧ e < dd (i + 1) ∧ El e x y) (fun i hi u v hu hv => ?_) fun i j t x y hij hj ht ⟨e1, a1, b1, c1⟩ ⟨e2, a2, b2, c2⟩ => ?_
  · rw [List.length_map] at hi
    obtain ⟨f, hf0, ef⟩ := hc i (by omega)
    obtain ⟨g, hg0, eg⟩ := hc (i + 1) (by omega)
    rw [show ((i : Int) + 1) = ((i + 1 : Nat) : Int) by omega, ef, eg]
    obtain ⟨e, a, b, c⟩ := run_el (p := u * f) (q := v * g) (dm i (i + 1) (by omega) (by omega)) (dg i hi) (Int.mul_pos hu hf0) (Int.mul_nonneg hv (by omega))
    refine ⟨e, a, b, ?_⟩
    rw [Int.mul_assoc, Int.mul_assoc, Int.mul_assoc, Int.mul_assoc] at c
    exact c
  · rw [List.length_map] at hj
    have s1 := el_sec c1
    have s2 := el_sec c2
    have q1 : dd (i + 1) ≤ dd j := by
      by_cases z : i + 1 = j
      · rw [z]; exact Nat.le_refl _
      · have := dm (i + 1) j (by omega) (by omega); omega
    have q2 : dd (j + 1) ≤ dd st.length := by
      by_cases z : j + 1 = st.length
      · rw [z]; exact Nat.le_refl _
      · have := dm (j + 1) st.length (by omega) (by omega); omega
    have q3 : dd 0 ≤ dd i := by
      by_cases z : i = 0
      · rw [z]; exact Nat.le_refl _
      · have := dm 0 i (by omega) (by omega); omega
    rw [d2] at q2
    rw [d1 0 (by omega)] at q3
    omega
/-! rings of two rows -/
theorem wave_simple {cs : List PT} (m : Nat) (hm : 2 ≤ m) (hl : cs.length = 2 * m) (yy : Nat → Int) (hc1 : ∀ k : Nat, k ≤ m → cix cs (k : Int) = (20 * (k : Int), yy k)) (hc2 : ∀ k : Nat, m ≤ k → k ≤ 2 * m → cix cs (k : Int) = (20 * (2 * m - (k : Int)), yy k))
    (y0 : yy 0 = 0) (ym : yy m = 0) (yn : yy (2 * m) = 0) (ylo : ∀ k, 0 < k → k < m → yy k < 0) (yhi : ∀ k, m < k → k < 2 * m → 0 < yy k) : Simple cs := by
  refine simple_rel (by omega) (fun k t x y => if k < m then 20 * ((k : Int) * t) ≤ x ∧ x < 20 * (((k : Int) + 1) * t) ∧ (y < 0 ∨ (x = 0 ∧ y = 0)) else 20 * ((2 * m - 1 - (k : Int)) * t) < x ∧ x ≤ 20 * ((2 * m - (k : Int)) * t) ∧ (0 < y ∨ (x = 20 * ((m : Int) * t) ∧ y = 0))) (fun i hi u v hu hv => ?_) fun i j t x y hij hj ht h1 h2 => ?_
  · have e1 : cix cs ((i : Int) + 1) = cix cs ((i + 1 : Nat) : Int) := by congr 1
    by_cases h : i < m
    · rw [e1, hc1 i (by omega), hc1 (i + 1) (by omega), if_pos h]
      dsimp only
      have ex : u * (20 * (i : Int)) + v * (20 * ((i + 1 : Nat) : Int)) = 20 * ((i : Int) * (u + v)) + 20 * v := by push_cast; grind
      have ex2 : 20 * (((i : Int) + 1) * (u + v)) = 20 * ((i : Int) * (u + v)) + 20 * v + 20 * u := by grind
      refine ⟨by omega, by omega, ?_⟩
      have n2 : v * yy (i + 1) ≤ 0 := by
        by_cases z : i + 1 = m
        · rw [z, ym, Int.mul_zero]; exact Int.le_refl _
        · exact Int.mul_nonpos_of_nonneg_of_nonpos hv (Int.le_of_lt (ylo (i + 1) (by omega) (by omega)))
      by_cases z : i = 0
      · subst z
        rw [y0, Int.mul_zero]
        by_cases hv0 : v = 0
        · right
          subst hv0
          constructor <;> omega
        · left
          have := Int.mul_neg_of_pos_of_neg (show 0 < v by omega) (ylo (0 + 1) (by omega) (by omega))
          omega
      · left
        have := Int.mul_neg_of_pos_of_neg hu (ylo i (by omega) h)
        omega
    · rw [e1, hc2 i (by omega) (by omega), hc2 (i + 1) (by omega) (by omega), if_neg h]
      dsimp only
      have ex : u * (20 * (2 * m - (i : Int))) + v * (20 * (2 * m - ((i + 1 : Nat) : Int))) = 20 * ((2 * m - (i : Int)) * (u + v)) - 20 * v := by push_cast; grind
      have ex2 : 20 * ((2 * m - 1 - (i : Int)) * (u + v)) = 20 * ((2 * m - (i : Int)) * (u + v)) - 20 * v - 20 * u := by grind
      refine ⟨by omega, by omega, ?_⟩
      have n2 : 0 ≤ v * yy (i + 1) := by
        by_cases z : i + 1 = 2 * m
        · rw [z, yn, Int.mul_zero]; exact Int.le_refl _
        · exact Int.mul_nonneg hv (Int.le_of_lt (yhi (i + 1) (by omega) (by omega)))
      by_cases z : i = m
      · subst z
        rw [ym, Int.mul_zero]
        by_cases hv0 : v = 0
        · right
          subst hv0
          have : (2 * (i : Int) - (i : Int)) = i := by omega
          rw [this] at ex ⊢
          constructor <;> omega
        · left
          have := Int.mul_pos (show 0 < v by omega) (yhi (i + 1) (by omega) (by omega))
          omega
      · left
        have := Int.mul_pos hu (yhi i (by omega) (by omega))
        omega
  · by_cases hjm : j < m
    · rw [if_pos (by omega)] at h1
      rw [if_pos hjm] at h2
      have := Int.mul_le_mul_of_nonneg_right (show (i : Int) + 1 ≤ j by omega) (Int.le_of_lt ht)
      omega
    · rw [if_neg hjm] at h2
      by_cases him : i < m
      · rw [if_pos him] at h1
        have := Int.mul_pos (show (0 : Int) < m by omega) ht
        omega
      · rw [if_neg him] at h1
        have := Int.mul_le_mul_of_nonneg_right (show 2 * (m : Int) - j ≤ 2 * m - 1 - i by omega) (Int.le_of_lt ht)
        omega
/-! areas: rings rotated, turned, put elsewhere, with a corner more -/
theorem arG_sm (g : PT → PT → Int) (cs : List PT) : arG g cs = sm (fun k => g (cix cs k) (cix cs (k + 1))) cs.length := id rfl
theorem arG_rot (g : PT → PT → Int) (xs ys : List PT) : arG g (ys ++ xs) = arG g (xs ++ ys) := by
  by_cases hn : 0 < xs.length + ys.length
  · have hl : (ys ++ xs).length = (xs ++ ys).length := by rw [List.length_append, List.length_append]; omega
    rw [arG_sm, arG_sm, hl, ← sm_shiftN (xs ++ ys).length xs.length (fun k => g (cix (xs ++ ys) k) (cix (xs ++ ys) (k + 1))) fun k => by
      show g (cix (xs ++ ys) (k + _)) (cix (xs ++ ys) (k + _ + 1)) = _
      rw [cix_mod, show k + ((xs ++ ys).length : Int) + 1 = k + 1 + ((xs ++ ys).length : Int) by omega, cix_mod]]
    refine sm_congr fun k _ => ?_
    show g (cix (ys ++ xs) k) (cix (ys ++ xs) (k + 1)) = g (cix (xs ++ ys) (k + xs.length)) (cix (xs ++ ys) (k + xs.length + 1))
    rw [cix_rot xs ys hn, cix_rot xs ys hn, show (k : Int) + 1 + xs.length = k + xs.length + 1 by omega]
  · have h1 : xs = [] := List.eq_nil_of_length_eq_zero (by omega)
    have h2 : ys = [] := List.eq_nil_of_length_eq_zero (by omega)
    rw [h1, h2]
theorem arG_app (g : PT → PT → Int) (cs : List PT) (m : PT) (h : 1 ≤ cs.length) : arG g (cs ++ [m]) = arG g cs - g (cix cs (-1)) (cix cs 0) + g (cix cs (-1)) m + g m (cix cs 0) := by
  obtain ⟨p, hp⟩ : ∃ p, cs.length = p + 1 := ⟨cs.length - 1, by omega⟩
  have hl : (cs ++ [m]).length = p + 1 + 1 := by rw [List.length_append, List.length_singleton, hp]
  have el : cix cs (-1) = cix cs (p : Int) := by rw [← cix_mod cs (-1)]; congr 1; omega
  have ez : cix cs ((p : Int) + 1) = cix cs 0 := by rw [← cix_sub cs ((p : Int) + 1)]; congr 1; omega
  have e0 : cix (cs ++ [m]) 0 = cix cs 0 := cix_app cs m 0 (by omega)
  have en : cix (cs ++ [m]) (((p + 1 : Nat) : Int) + 1) = cix cs 0 := by rw [← e0, ← cix_sub (cs ++ [m]) (((p + 1 : Nat) : Int) + 1)]; congr 1; omega
  have em : cix (cs ++ [m]) ((p + 1 : Nat) : Int) = m := by rw [← hp]; exact cix_last cs m
  have em' : cix (cs ++ [m]) ((p : Int) + 1) = m := em
  have ep : cix (cs ++ [m]) (p : Int) = cix cs (p : Int) := cix_app cs m p (by omega)
  rw [arG_sm, arG_sm, hl, hp, sm_succ, sm_succ, sm_succ]
  have ec : sm (fun k => g (cix (cs ++ [m]) k) (cix (cs ++ [m]) (k + 1))) p = sm (fun k => g (cix cs k) (cix cs (k + 1))) p := sm_congr fun k hk => by
    show g (cix (cs ++ [m]) k) (cix (cs ++ [m]) (k + 1)) = g (cix cs k) (cix cs (k + 1))
    rw [cix_app cs m k (by omega), show (k : Int) + 1 = ((k + 1 : Nat) : Int) by omega, cix_app cs m (k + 1) (by omega)]
  rw [ec, en, em, em', ep, ez, el]
  omega
theorem crz_anti (a b : PT) : crz a b = 0 - crz b a := by unfold crz; grind
theorem arA_rev (cs : List PT) (hn : 0 < cs.length) : arA cs.reverse = 0 - arA cs := by
  show arG crz cs.reverse = 0 - arG crz cs
  rw [arG_sm, arG_sm, List.length_reverse, ← sm_neg]
  have per : ∀ k : Int, crz (cix cs (k + cs.length)) (cix cs (k + cs.length + 1)) = crz (cix cs k) (cix cs (k + 1)) := fun k => by
    rw [cix_mod, show k + (cs.length : Int) + 1 = k + 1 + cs.length by omega, cix_mod]
  have h1 := sm_reflect cs.length (fun k => 0 - crz (cix cs (k - 1)) (cix cs (k - 1 + 1)))
  have h2 := sm_shift (fun k => 0 - crz (cix cs (k - 1)) (cix cs (k - 1 + 1))) cs.length (by
    have := per (0 - 1)
    rw [show (0 : Int) - 1 + cs.length = (cs.length : Int) - 1 by omega] at this
    show 0 - crz _ _ = 0 - crz _ _
    rw [this])
  have e1 : sm (fun k => crz (cix cs.reverse k) (cix cs.reverse (k + 1))) cs.length = sm (fun k => 0 - crz (cix cs ((cs.length : Int) - 1 - k - 1)) (cix cs ((cs.length : Int) - 1 - k - 1 + 1))) cs.length := sm_congr fun k _ => by
    show crz (cix cs.reverse k) (cix cs.reverse (k + 1)) = _
    rw [cix_rev cs hn, cix_rev cs hn, crz_anti]
    congr 2
    · rw [← cix_mod]; congr 1; omega
    · rw [← cix_mod]; congr 1; omega
  rw [e1, h1, ← h2]
  refine sm_congr fun k _ => ?_
  show 0 - crz (cix cs (k + 1 - 1)) (cix cs (k + 1 - 1 + 1)) = 0 - crz (cix cs k) (cix cs (k + 1))
  rw [show (k : Int) + 1 - 1 = k by omega]
theorem arA_put {a b c d e f : Int} {cs : List PT} (hn : 0 < cs.length) : arA (cs.map (putP a b c d e f)) = (a * d - b * c) * arA cs := by
  show arG crz _ = _ * arG crz cs
  rw [arG_sm, arG_sm, List.length_map]
  have h := sm_tele (a * d - b * c) (fun k => crz (cix cs k) (cix cs (k + 1))) (fun k => e * (c * (cix cs k).1 + d * (cix cs k).2) - f * (a * (cix cs k).1 + b * (cix cs k).2)) cs.length
  have e0 : cix cs (cs.length : Int) = cix cs 0 := by rw [← cix_mod cs 0]; congr 1; omega
  rw [e0, Int.sub_self, Int.add_zero] at h
  rw [← h]
  refine sm_congr fun k _ => ?_
  show crz (cix (cs.map (putP a b c d e f)) k) (cix (cs.map (putP a b c d e f)) (k + 1)) = _
  rw [cix_map _ _ hn, cix_map _ _ hn]
  generalize cix cs (k : Int) = p
  generalize cix cs ((k : Int) + 1) = q
  unfold crz putP
  grind
/-- by the triangles of any place -/
theorem arA_spot (cs : List PT) (s : PT) : sm (fun k => crz ((cix cs (k - 1)).1 - s.1, (cix cs (k - 1)).2 - s.2) ((cix cs k).1 - s.1, (cix cs k).2 - s.2)) cs.length = arA cs := by
  show _ = arG crz cs
  rw [arG_sm]
  have e0 : cix cs (cs.length : Int) = cix cs 0 := by rw [← cix_mod cs 0]; congr 1; omega
  have e1 : cix cs ((cs.length : Int) - 1) = cix cs (0 - 1) := by rw [← cix_mod cs (0 - 1), show (0 : Int) - 1 + cs.length = cs.length - 1 by omega]
  rw [← sm_shift (fun k => crz ((cix cs (k - 1)).1 - s.1, (cix cs (k - 1)).2 - s.2) ((cix cs k).1 - s.1, (cix cs k).2 - s.2)) cs.length (by rw [e0, e1])]
  have h := sm_tele 1 (fun k => crz (cix cs k) (cix cs (k + 1))) (fun k => s.2 * (cix cs k).1 - s.1 * (cix cs k).2) cs.length
  rw [e0, Int.sub_self, Int.add_zero, Int.one_mul] at h
  rw [← h]
  refine sm_congr fun k _ => ?_
  rw [show (k : Int) + 1 - 1 = k by omega]
  generalize cix cs (k : Int) = p
  generalize cix cs ((k : Int) + 1) = q
  unfold crz
  dsimp only
  grind
theorem arA_ins {xs ys : List PT} {b m : PT} (m1 : 2 * m.1 = (cix (xs ++ b :: ys) ((xs.length : Int) - 1)).1 + b.1) (m2 : 2 * m.2 = (cix (xs ++ b :: ys) ((xs.length : Int) - 1)).2 + b.2) : arA (xs ++ m :: b :: ys) = arA (xs ++ b :: ys) := by
  have hn : 0 < xs.length + (b :: ys).length := by rw [List.length_cons]; omega
  have e1 : cix (b :: ys ++ xs) (-1) = cix (xs ++ b :: ys) ((xs.length : Int) - 1) := by
    rw [cix_rot xs (b :: ys) hn, show (-1 : Int) + xs.length = xs.length - 1 by omega]
  have e2 : cix (b :: ys ++ xs) 0 = b := by
    have : cix (b :: ys ++ xs) ((0 : Nat) : Int) = b := by rw [cix_nat (by simp)]; rfl
    exact this
  have h := arG_app crz (b :: ys ++ xs) m (by simp)
  rw [e1, e2] at h
  have e3 : b :: ys ++ xs ++ [m] = (b :: ys) ++ (xs ++ [m]) := by simp
  rw [e3, arG_rot crz (xs ++ [m]) (b :: ys), arG_rot crz xs (b :: ys)] at h
  have e4 : xs ++ [m] ++ (b :: ys) = xs ++ m :: b :: ys := by simp
  rw [e4] at h
  show arG crz _ = arG crz _
  rw [h]
  generalize cix (xs ++ b :: ys) ((xs.length : Int) - 1) = a at *
  unfold crz
  grind
/-! straight corners left out -/
theorem strt {a m b : PT} (ham : a ≠ m) (hmb : m ≠ b) (hw : lcB a m b = 0) (hd : 0 ≤ (m.1 - a.1) * (b.1 - m.1) + (m.2 - a.2) * (b.2 - m.2)) :
    ∃ s t : Int, 0 < s ∧ 0 < t ∧ s * (m.1 - a.1) = t * (b.1 - m.1) ∧ s * (m.2 - a.2) = t * (b.2 - m.2) := by
  unfold lcB at hw
  have sq2 : ∀ x y : Int, (x ≠ 0 ∨ y ≠ 0) → 0 < x * x + y * y := fun x y h => by
    have n1 := sq_nn x
    have n2 := sq_nn y
    refine pos_of (by omega) fun z => ?_
    have z1 : x * x = 0 := by omega
    have z2 : y * y = 0 := by omega
    have := sq_zero z1
    have := sq_zero z2
    omega
  have ne : ∀ p q : PT, p ≠ q → (q.1 - p.1 ≠ 0 ∨ q.2 - p.2 ≠ 0) := fun p q h => by
    by_cases z : q.1 - p.1 = 0
    · right; intro z2; exact h (Prod.ext (by omega) (by omega))
    · exact .inl z
  have hu := sq2 _ _ (ne a m ham)
  have hv := sq2 _ _ (ne m b hmb)
  generalize m.1 - a.1 = u1 at *
  generalize m.2 - a.2 = u2 at *
  generalize b.1 - m.1 = v1 at *
  generalize b.2 - m.2 = v2 at *
  refine ⟨v1 * v1 + v2 * v2, u1 * v1 + u2 * v2, hv, pos_of hd fun z => ?_, by grind, by grind⟩
  have e : (u1 * u1 + u2 * u2) * (v1 * v1 + v2 * v2) = (u1 * v1 + u2 * v2) * (u1 * v1 + u2 * v2) + (u1 * v2 - u2 * v1) * (u1 * v2 - u2 * v1) := by grind
  have := Int.mul_pos hu hv
  rw [e, hw, ← z] at this
  omega
theorem sh_split {a m b c d : PT} {s t : Int} (hs : 0 < s) (ht : 0 < t) (e1 : s * (m.1 - a.1) = t * (b.1 - m.1)) (e2 : s * (m.2 - a.2) = t * (b.2 - m.2)) (h : Sh a b c d) : Sh a m c d ∨ Sh m b c d := by
  obtain ⟨u, v, x, y, h1, h2, h3, h4, h5, h6, h7⟩ := h
  by_cases hc : s * v < t * u
  · left
    refine ⟨t * u - s * v, v * (s + t), t * x, t * y, by omega, Int.mul_nonneg h2 (by omega), Int.mul_pos ht h3, Int.mul_nonneg (by omega) h4, ?_, ?_, ?_⟩
    · grind
    · grind
    · grind
  · right
    refine ⟨u * (s + t), s * v - t * u, s * x, s * y, Int.mul_pos h1 (by omega), by omega, Int.mul_pos hs h3, Int.mul_nonneg (by omega) h4, ?_, ?_, ?_⟩
    · grind
    · grind
    · grind
theorem war_lcB (a b c : PT) : war a b c = lcB a b c := by unfold war lcB; grind
structure Del (cs : List PT) (m : PT) : Prop where
  simple : Simple cs
  area : arA (cs ++ [m]) = arA cs
  bend : ∀ k : Nat, k < cs.length → bd (cs ++ [m]) (k : Int) = bd cs (k : Int)
theorem zero_iff {p q x y : Int} (hp : 0 < p) (hq : 0 < q) (h : p * x = q * y) : (x ≠ 0) = (y ≠ 0) := by
  refine propext (not_congr ⟨fun z => ?_, fun z => ?_⟩)
  · rw [z, Int.mul_zero] at h
    rcases Int.mul_eq_zero.mp h.symm with w | w <;> omega
  · rw [z, Int.mul_zero] at h
    rcases Int.mul_eq_zero.mp h with w | w <;> omega
theorem simple_del {cs : List PT} {m : PT} (h : Simple (cs ++ [m])) (hw : war (cix cs (-1)) m (cix cs 0) = 0) : Del cs m := by
  have hl := h.len
  have hla : (cs ++ [m]).length = cs.length + 1 := by rw [List.length_append, List.length_singleton]
  have el : cix cs (-1) = cix cs ((cs.length - 1 : Nat) : Int) := by rw [← cix_mod]; congr 1; omega
  have ez : cix cs 0 = cix cs (((cs.length - 1 : Nat) : Int) + 1) := by rw [← cix_sub cs (((cs.length - 1 : Nat) : Int) + 1)]; congr 1; omega
  have e0 : cix (cs ++ [m]) 0 = cix cs 0 := cix_app cs m 0 (by omega)
  have en : cix (cs ++ [m]) ((cs.length : Int) + 1) = cix cs 0 := by
    rw [← e0, ← cix_sub (cs ++ [m]) ((cs.length : Int) + 1)]; congr 1; omega
  have em : cix (cs ++ [m]) (cs.length : Int) = m := cix_last cs m
  have ea : cix (cs ++ [m]) ((cs.length - 1 : Nat) : Int) = cix cs (-1) := by rw [el]; exact cix_app cs m _ (by omega)
  have ea1 : cix (cs ++ [m]) (((cs.length - 1 : Nat) : Int) + 1) = m := by rw [show ((cs.length - 1 : Nat) : Int) + 1 = (cs.length : Int) by omega]; exact em
  have emm : cix (cs ++ [m]) (-1) = m := Eq.trans (by rw [← cix_mod (cs ++ [m]) (-1)]; congr 1; omega) em
  have lon1 := h.long (cs.length - 1) (by omega)
  have lon2 := h.long cs.length (by omega)
  have two := h.apart (cs.length - 1) cs.length (by omega) (by omega) (by omega)
  rw [ea, ea1] at lon1
  rw [em, en] at lon2
  rw [ea, ea1, em, en] at two
  have hd : 0 ≤ (m.1 - (cix cs (-1)).1) * ((cix cs 0).1 - m.1) + (m.2 - (cix cs (-1)).2) * ((cix cs 0).2 - m.2) := by
    refine Int.not_lt.mp fun z => two (tb_sh ((tb_iff _ _ _).mpr ⟨?_, z⟩))
    rw [← war_lcB]; exact hw
  obtain ⟨s, t, hs, ht, q1, q2⟩ := strt lon1 lon2 (by rw [← war_lcB]; exact hw) hd
  have h3 : 3 ≤ cs.length := by
    refine Nat.not_lt.mp fun z => ?_
    have hc : cs.length = 2 := by omega
    refine h.apart 0 2 (by omega) (by omega) (by decide) ?_
    have f0 : cix (cs ++ [m]) ((0 : Nat) : Int) = cix cs 0 := e0
    have f1 : cix (cs ++ [m]) (((0 : Nat) : Int) + 1) = cix cs (-1) := by rw [← ea]; congr 1; omega
    have f2 : cix (cs ++ [m]) ((2 : Nat) : Int) = m := by rw [← hc]; exact em
    have f3 : cix (cs ++ [m]) (((2 : Nat) : Int) + 1) = cix cs 0 := by rw [← hc]; exact en
    rw [f0, f1, f2, f3]
    exact ⟨t, s, s + t, 0, ht, by omega, by omega, by decide, by omega, by grind, by grind⟩
  refine ⟨?_, ?_, ?_⟩
  · have part : ∀ i : Nat, i < cs.length → ∀ c d : PT, Sh (cix cs (i : Int)) (cix cs ((i : Int) + 1)) c d → ∃ j : Nat, j < cs.length + 1 ∧ (j = i ∨ (i = cs.length - 1 ∧ j = cs.length)) ∧ Sh (cix (cs ++ [m]) (j : Int)) (cix (cs ++ [m]) ((j : Int) + 1)) c d := by
      intro i hi c d hh
      by_cases h1 : i + 1 < cs.length
      · refine ⟨i, by omega, .inl rfl, ?_⟩
        rw [cix_app cs m i hi, show (i : Int) + 1 = ((i + 1 : Nat) : Int) by omega, cix_app cs m (i + 1) h1]
        exact hh
      · have hi' : i = cs.length - 1 := by omega
        subst hi'
        rw [← ez, ← el] at hh
        rcases sh_split hs ht q1 q2 hh with k | k
        · exact ⟨cs.length - 1, by omega, .inl rfl, by rw [ea, ea1]; exact k⟩
        · exact ⟨cs.length, by omega, .inr ⟨rfl, rfl⟩, by rw [em, en]; exact k⟩
    refine simple_long h3 fun i j hi hj hij hh => ?_
    obtain ⟨i', li, ci, k1⟩ := part i hi _ _ hh
    obtain ⟨j', lj, cj, k2⟩ := part j hj _ _ k1.symm
    exact h.apart i' j' (by omega) (by omega) (by omega) k2.symm
  · have := arG_app crz cs m (by omega)
    show arG crz _ = arG crz _
    rw [this]
    generalize cix cs (-1) = a at *
    generalize cix cs 0 = b at *
    unfold war at hw
    unfold crz
    grind
  · intro k hk
    unfold bd
    have ek := cix_app cs m k hk
    by_cases k0 : k = 0
    · subst k0
      have f1 : cix (cs ++ [m]) (((0 : Nat) : Int) - 1) = m := emm
      have f2 : cix cs (((0 : Nat) : Int) - 1) = cix cs (-1) := rfl
      have f3 : cix (cs ++ [m]) (((0 : Nat) : Int) + 1) = cix cs (((0 : Nat) : Int) + 1) := cix_app cs m 1 (by omega)
      have f4 : cix cs ((0 : Nat) : Int) = cix cs 0 := rfl
      rw [ek, f1, f2, f3, f4]
      generalize cix cs (((0 : Nat) : Int) + 1) = q
      generalize cix cs (-1) = a at *
      generalize cix cs 0 = b at *
      have : (s + t) * war m b q = s * war a b q := by unfold war; grind
      rw [decide_eq_decide]
      exact iff_of_eq (zero_iff (by omega) hs this)
    · have f1 : cix (cs ++ [m]) ((k : Int) - 1) = cix cs ((k : Int) - 1) := by
        rw [show (k : Int) - 1 = ((k - 1 : Nat) : Int) by omega]; exact cix_app cs m _ (by omega)
      by_cases k1 : k + 1 = cs.length
      · have f2 : cix (cs ++ [m]) ((k : Int) + 1) = m := by rw [show (k : Int) + 1 = (cs.length : Int) by omega]; exact em
        have f3 : cix cs ((k : Int) + 1) = cix cs 0 := by rw [ez]; congr 1; omega
        have f4 : cix cs (k : Int) = cix cs (-1) := by rw [el]; congr 1; omega
        rw [ek, f1, f2, f3, f4]
        generalize cix cs ((k : Int) - 1) = q
        generalize cix cs (-1) = a at *
        generalize cix cs 0 = b at *
        have : (s + t) * war q a m = t * war q a b := by unfold war; grind
        rw [decide_eq_decide]
        exact iff_of_eq (zero_iff (by omega) ht this)
      · have f2 : cix (cs ++ [m]) ((k : Int) + 1) = cix cs ((k : Int) + 1) := by
          rw [show (k : Int) + 1 = ((k + 1 : Nat) : Int) by omega]; exact cix_app cs m _ (by omega)
        rw [ek, f1, f2]
/-! the corners that are not straight -/
theorem bd_mod (cs : List PT) (k : Int) : bd cs (k + cs.length) = bd cs k := by
  unfold bd
  rw [show k + (cs.length : Int) - 1 = k - 1 + cs.length by omega, show k + (cs.length : Int) + 1 = k + 1 + cs.length by omega, cix_mod, cix_mod, cix_mod]
theorem bd_rot (xs ys : List PT) (hn : 0 < xs.length + ys.length) (k : Int) : bd (ys ++ xs) k = bd (xs ++ ys) (k + xs.length) := by
  unfold bd
  rw [cix_rot xs ys hn, cix_rot xs ys hn, cix_rot xs ys hn, show k - 1 + (xs.length : Int) = k + xs.length - 1 by omega, show k + 1 + (xs.length : Int) = k + xs.length + 1 by omega]
theorem FI_app (cs : List PT) (lo : Int) (m n : Nat) : FI cs lo (m + n) = FI cs lo m ++ FI cs (lo + m) n := by
  unfold FI
  rw [List.range_add, List.filter_append, List.map_append, List.filter_map, List.map_map]
  congr 1
  have e : ((fun (k : Nat) => bd cs (lo + (k : Int))) ∘ fun x => m + x) = fun (k : Nat) => bd cs (lo + (m : Int) + (k : Int)) := by
    funext k
    show bd cs (lo + ((m + k : Nat) : Int)) = bd cs (lo + (m : Int) + (k : Int))
    congr 1; omega
  rw [e]
  refine List.map_congr_left fun k _ => ?_
  show cix cs (lo + ((m + k : Nat) : Int)) = cix cs (lo + (m : Int) + (k : Int))
  congr 1; omega
theorem FI_shift {cs ds : List PT} {lo lo' : Int} {n : Nat} (h1 : ∀ k : Nat, k < n → bd cs (lo + k) = bd ds (lo' + k)) (h2 : ∀ k : Nat, k < n → cix cs (lo + k) = cix ds (lo' + k)) : FI cs lo n = FI ds lo' n := by
  unfold FI
  rw [List.filter_congr (q := fun (k : Nat) => bd ds (lo' + (k : Int))) fun k hk => h1 k (List.mem_range.mp hk)]
  refine List.map_congr_left fun k hk => h2 k (List.mem_range.mp (List.mem_filter.mp hk).1)
theorem FB_rot (xs ys : List PT) : ∃ f g, FB (xs ++ ys) = f ++ g ∧ FB (ys ++ xs) = g ++ f := by
  by_cases hn : 0 < xs.length + ys.length
  · refine ⟨FI (xs ++ ys) 0 xs.length, FI (xs ++ ys) (0 + xs.length) ys.length, ?_, ?_⟩
    · unfold FB
      rw [List.length_append, FI_app]
    · unfold FB
      rw [List.length_append, FI_app]
      congr 1
      · refine FI_shift (fun k _ => ?_) fun k _ => ?_
        · rw [bd_rot xs ys hn]; congr 1; omega
        · rw [cix_rot xs ys hn]; congr 1; omega
      · refine FI_shift (fun k _ => ?_) fun k _ => ?_
        · rw [bd_rot xs ys hn, ← bd_mod (xs ++ ys) (0 + k)]; congr 1; rw [List.length_append]; omega
        · rw [cix_rot xs ys hn, ← cix_mod (xs ++ ys) (0 + k)]; congr 1; rw [List.length_append]; omega
  · have h1 : xs = [] := List.eq_nil_of_length_eq_zero (by omega)
    have h2 : ys = [] := List.eq_nil_of_length_eq_zero (by omega)
    rw [h1, h2]
    exact ⟨[], [], rfl, rfl⟩
/-- no corner is straight -/
def NS (cs : List PT) : Prop := ∀ k : Int, bd cs k = true
theorem NS_rot {xs ys : List PT} (h : NS (xs ++ ys)) : NS (ys ++ xs) := fun k => by
  by_cases hn : 0 < xs.length + ys.length
  · rw [bd_rot xs ys hn]; exact h _
  · have h1 : xs = [] := List.eq_nil_of_length_eq_zero (by omega)
    have h2 : ys = [] := List.eq_nil_of_length_eq_zero (by omega)
    rw [h1, h2] at h ⊢
    exact h k
theorem range_cix (cs : List PT) : (List.range cs.length).map (fun (k : Nat) => cix cs (0 + (k : Int))) = cs := by
  refine List.ext_getElem (by rw [List.length_map, List.length_range]) fun i h1 h2 => ?_
  rw [List.getElem_map, List.getElem_range, Int.zero_add, cix_nat h2]
theorem FB_all {cs : List PT} (h : ∀ k : Nat, k < cs.length → bd cs (k : Int) = true) : FB cs = cs := by
  unfold FB FI
  rw [List.filter_eq_self.mpr fun k hk => by rw [Int.zero_add]; exact h k (List.mem_range.mp hk)]
  exact range_cix cs
theorem FB_NS {cs : List PT} (h : NS cs) : FB cs = cs := FB_all fun k _ => h k
theorem bd_any {cs : List PT} (hn : 0 < cs.length) (h : ∀ k : Nat, k < cs.length → bd cs (k : Int) = true) : NS cs := fun k => by
  have a0 := Int.emod_nonneg k (show (cs.length : Int) ≠ 0 by omega)
  have a1 := Int.emod_lt_of_pos k (show (0 : Int) < cs.length by omega)
  have e : ∀ j : Int, cix cs (k % (cs.length : Int) + j) = cix cs (k + j) := fun j => by unfold cix; rw [Int.emod_add_emod]
  have := h (k % (cs.length : Int)).toNat (by omega)
  rw [Int.toNat_of_nonneg a0] at this
  have e0 := e 0
  have e1 := e 1
  have e2 := e (-1)
  rw [Int.add_zero, Int.add_zero] at e0
  unfold bd at this ⊢
  have e3 : cix cs (k % (cs.length : Int) - 1) = cix cs (k - 1) := e2
  simp only [e0, e1, e3] at this
  exact this
theorem FB_del {cs : List PT} {m : PT} (D : Del cs m) (hm : bd (cs ++ [m]) (cs.length : Int) = false) : FB (cs ++ [m]) = FB cs := by
  unfold FB
  rw [List.length_append, List.length_singleton, FI_app]
  have e2 : FI (cs ++ [m]) (0 + (cs.length : Int)) 1 = [] := by
    unfold FI
    rw [List.range_one, List.filter_cons]
    have : bd (cs ++ [m]) (0 + (cs.length : Int) + ((0 : Nat) : Int)) = false := by
      rw [← hm]; congr 1; omega
    rw [if_neg (by rw [this]; decide)]
    rfl
  rw [e2, List.append_nil]
  refine FI_shift (fun k hk => ?_) fun k hk => ?_
  · rw [Int.zero_add]; exact D.bend k hk
  · rw [Int.zero_add]; exact cix_app cs m k hk
structure Good (cs fs : List PT) : Prop where
  simple : Simple fs
  area : arA fs = arA cs
  ns : NS fs
theorem FB_good : ∀ (N : Nat) (cs : List PT), cs.length = N → Simple cs → Good cs (FB cs)
  | 0, cs, hl, h => by have := h.len; omega
  | N + 1, cs, hl, h => by
    by_cases hb : ∀ k : Nat, k < cs.length → bd cs (k : Int) = true
    · rw [FB_all hb]
      exact ⟨h, rfl, bd_any (by omega) hb⟩
    · simp only [Classical.not_forall] at hb
      obtain ⟨i, hi, hb⟩ := hb
      have hb : bd cs (i : Int) = false := by simpa using hb
      obtain ⟨xs, m, ys, rfl, hx⟩ : ∃ xs m ys, cs = xs ++ m :: ys ∧ xs.length = i :=
        ⟨cs.take i, cs[i], cs.drop (i + 1), by rw [← List.drop_eq_getElem_cons hi, List.take_append_drop], by rw [List.length_take]; omega⟩
      have e1 : xs ++ m :: ys = (xs ++ [m]) ++ ys := by simp
      have e2 : ys ++ (xs ++ [m]) = ys ++ xs ++ [m] := by simp
      have hn : 0 < (xs ++ [m]).length + ys.length := by rw [List.length_append, List.length_singleton]; omega
      have h1 : Simple (ys ++ xs ++ [m]) := by rw [← e2]; rw [e1] at h; exact simple_rot h
      have hl2 : (ys ++ xs).length = N := by
        rw [List.length_append, List.length_cons] at hl
        rw [List.length_append]; omega
      have b1 : bd (ys ++ xs ++ [m]) ((ys ++ xs).length : Int) = false := by
        rw [← e2, bd_rot (xs ++ [m]) ys hn, ← e1, ← hb, ← bd_mod (xs ++ m :: ys) (i : Int)]
        congr 1
        rw [List.length_append, List.length_append, List.length_append, List.length_singleton, List.length_cons]
        omega
      have l3 := h1.len
      rw [List.length_append, List.length_singleton] at l3
      have hw : war (cix (ys ++ xs) (-1)) m (cix (ys ++ xs) 0) = 0 := by
        have f1 : cix (ys ++ xs ++ [m]) (((ys ++ xs).length : Int) - 1) = cix (ys ++ xs) (-1) := by
          rw [show ((ys ++ xs).length : Int) - 1 = (((ys ++ xs).length - 1 : Nat) : Int) by omega, cix_app _ _ _ (by omega), ← cix_mod (ys ++ xs) (-1)]
          congr 1; omega
        have f2 : cix (ys ++ xs ++ [m]) (((ys ++ xs).length : Int) + 1) = cix (ys ++ xs) 0 := by
          have e0 : cix (ys ++ xs ++ [m]) 0 = cix (ys ++ xs) 0 := cix_app (ys ++ xs) m 0 (by omega)
          have la : (ys ++ xs ++ [m]).length = (ys ++ xs).length + 1 := by rw [List.length_append, List.length_singleton]
          rw [← e0, ← cix_sub (ys ++ xs ++ [m]) (((ys ++ xs).length : Int) + 1)]; congr 1; omega
        unfold bd at b1
        rw [f1, f2, cix_last] at b1
        have := of_decide_eq_false b1
        exact Classical.not_not.mp this
      have D := simple_del h1 hw
      have G := FB_good N (ys ++ xs) hl2 D.simple
      rw [← FB_del D b1] at G
      obtain ⟨f, g, r1, r2⟩ := FB_rot (xs ++ [m]) ys
      rw [← e1] at r1
      rw [e2] at r2
      rw [r2] at G
      rw [r1]
      refine ⟨simple_rot G.simple, ?_, NS_rot G.ns⟩
      have a1 : arA (f ++ g) = arA (g ++ f) := arG_rot crz g f
      have a2 : arA (ys ++ xs ++ [m]) = arA (xs ++ m :: ys) := by rw [← e2, e1]; exact arG_rot crz (xs ++ [m]) ys
      rw [a1, G.area, ← D.area, a2]
theorem FB_mem {cs : List PT} (hn : 0 < cs.length) {c : PT} (h : c ∈ FB cs) : c ∈ cs := by
  unfold FB FI at h
  obtain ⟨k, _, rfl⟩ := List.mem_map.mp h
  obtain ⟨r, hr, _, e⟩ := cix_eq hn (0 + (k : Int))
  rw [e]; exact List.getElem_mem _
theorem FB_len (cs : List PT) : (FB cs).length ≤ cs.length := by
  unfold FB FI
  rw [List.length_map]
  have := List.length_filter_le (fun (k : Nat) => bd cs (0 + (k : Int))) (List.range cs.length)
  rwa [List.length_range] at this
/-! from the least on -/
def ltP (p q : PT) : Prop := p.1 < q.1 ∨ (p.1 = q.1 ∧ p.2 < q.2)
theorem lt_iff (p q : PT) : PySem.W.DatumOrd.lt p q = true ↔ ltP p q := by
  show (if p.1 = q.1 then decide (p.2 < q.2) else decide (p.1 < q.1)) = true ↔ _
  unfold ltP
  split
  · rename_i h
    rw [decide_eq_true_eq]
    omega
  · rename_i h
    rw [decide_eq_true_eq]
    omega
theorem ltP_ext {p q : PT} (h1 : ¬ ltP p q) (h2 : ¬ ltP q p) : p = q := by
  unfold ltP at h1 h2
  exact Prod.ext (by omega) (by omega)
theorem min_of : ∀ (xs : List PT) (x : PT), PySem.W.minOf x xs ∈ x :: xs ∧ ∀ y ∈ x :: xs, ¬ ltP y (PySem.W.minOf x xs)
  | [], x => ⟨List.mem_cons_self, fun y hy => by
      rw [List.mem_singleton.mp hy]
      show ¬ ltP x x
      unfold ltP; omega⟩
  | y :: ys, x => by
    have e : PySem.W.minOf x (y :: ys) = PySem.W.minOf (if PySem.W.DatumOrd.lt y x = true then y else x) ys := rfl
    rw [e]
    by_cases h : PySem.W.DatumOrd.lt y x = true
    · rw [if_pos h]
      have hl := (lt_iff y x).mp h
      obtain ⟨a, b⟩ := min_of ys y
      refine ⟨List.mem_cons_of_mem _ a, fun z hz => ?_⟩
      rcases List.mem_cons.mp hz with rfl | hz
      · have := b y List.mem_cons_self
        generalize PySem.W.minOf y ys = r at *
        unfold ltP at *
        omega
      · exact b z hz
    · rw [if_neg h]
      have hl : ¬ ltP y x := fun w => h ((lt_iff y x).mpr w)
      obtain ⟨a, b⟩ := min_of ys x
      refine ⟨?_, fun z hz => ?_⟩
      · rcases List.mem_cons.mp a with q | q
        · rw [q]; exact List.mem_cons_self
        · exact List.mem_cons_of_mem _ (List.mem_cons_of_mem _ q)
      · rcases List.mem_cons.mp hz with rfl | hz
        · exact b z List.mem_cons_self
        · rcases List.mem_cons.mp hz with rfl | hz
          · have := b x List.mem_cons_self
            generalize PySem.W.minOf x ys = r at *
            unfold ltP at *
            omega
          · exact b z (List.mem_cons_of_mem _ hz)
theorem minP_mem {fs : List PT} (h : fs ≠ []) : minP fs ∈ fs := by
  cases fs with
  | nil => exact (h rfl).elim
  | cons c cs => exact (min_of cs c).1
theorem minP_least {fs : List PT} {y : PT} (h : y ∈ fs) : ¬ ltP y (minP fs) := by
  cases fs with
  | nil => cases h
  | cons c cs => exact (min_of cs c).2 y h
theorem minP_ext {fs gs : List PT} (h : ∀ x, x ∈ fs ↔ x ∈ gs) (hf : fs ≠ []) : minP fs = minP gs := by
  have hg : gs ≠ [] := fun z => by
    have := (h _).mp (minP_mem hf)
    rw [z] at this; cases this
  exact ltP_ext (minP_least ((h _).mp (minP_mem hf))) (minP_least ((h _).mpr (minP_mem hg)))
theorem canon_at {xs ys : List PT} {m : PT} (hm : m = minP (xs ++ m :: ys)) (hx : m ∉ xs) : canon (xs ++ m :: ys) = m :: ys ++ xs := by
  unfold canon
  rw [← hm]
  have t : ∀ zs : List PT, m ∉ zs → (zs ++ m :: ys).takeWhile (fun x => decide (x ≠ m)) = zs ∧ (zs ++ m :: ys).dropWhile (fun x => decide (x ≠ m)) = m :: ys := by
    intro zs
    induction zs with
    | nil =>
      intro _
      constructor
      · rw [List.nil_append, List.takeWhile_cons, if_neg (by simp)]
      · rw [List.nil_append, List.dropWhile_cons, if_neg (by simp)]
    | cons z zs ih =>
      intro hz
      obtain ⟨a, b⟩ := ih fun w => hz (List.mem_cons_of_mem _ w)
      have ne : z ≠ m := fun w => hz (w ▸ List.mem_cons_self)
      constructor
      · rw [List.cons_append, List.takeWhile_cons, if_pos (by simpa using ne), a]
      · rw [List.cons_append, List.dropWhile_cons, if_pos (by simpa using ne), b]
  obtain ⟨a, b⟩ := t xs hx
  rw [a, b]
theorem canon_split {fs : List PT} (h : fs ≠ []) : ∃ xs ys, fs = xs ++ minP fs :: ys ∧ minP fs ∉ xs ∧ canon fs = minP fs :: ys ++ xs := by
  obtain ⟨xs, ys, e, hx⟩ := List.eq_append_cons_of_mem (minP_mem h)
  refine ⟨xs, ys, e, hx, ?_⟩
  have := canon_at (xs := xs) (ys := ys) (m := minP fs) (by rw [← e]) hx
  rw [← e] at this
  exact this
theorem canon_rot {as bs : List PT} (hd : (as ++ bs).Nodup) (hn : as ++ bs ≠ []) : canon (bs ++ as) = canon (as ++ bs) := by
  obtain ⟨xs, ys, e, hx, ec⟩ := canon_split hn
  have em : minP (as ++ bs) = minP (bs ++ as) := minP_ext (fun x => by rw [List.mem_append, List.mem_append]; exact Or.comm) hn
  rw [ec]
  generalize minP (as ++ bs) = m at *
  have hm2 : m ∉ xs ∧ m ∉ ys := by
    rw [e] at hd
    refine ⟨hx, fun z => ?_⟩
    rw [List.nodup_append] at hd
    exact (List.nodup_cons.mp hd.2.1).1 z
  rcases List.append_eq_append_iff.mp e with ⟨r, e1, e2⟩ | ⟨r, e1, e2⟩
  · -- the least stands in bs
    subst e1 e2
    have k : (r ++ m :: ys) ++ as = r ++ m :: (ys ++ as) := by simp
    rw [k] at em ⊢
    rw [canon_at em (fun z => hx (List.mem_append.mpr (.inr z)))]
    simp
  · cases r with
    | nil =>
      rw [List.nil_append] at e2
      rw [List.append_nil] at e1
      subst e1
      rw [← e2] at em ⊢
      have k : (m :: ys) ++ as = [] ++ m :: (ys ++ as) := rfl
      rw [k] at em ⊢
      rw [canon_at em (fun z => by cases z)]
      simp
    | cons z r =>
      rw [List.cons_append] at e2
      injection e2 with e2 e3
      subst e2 e1 e3
      have k : bs ++ (xs ++ m :: r) = (bs ++ xs) ++ m :: r := by simp
      rw [k] at em ⊢
      rw [canon_at em (fun z => by
        rcases List.mem_append.mp z with z | z
        · exact hm2.2 (List.mem_append.mpr (.inr z))
        · exact hm2.1 z)]
      simp
theorem canon_form {fs : List PT} (h : fs ≠ []) : ∃ xs ys, fs = xs ++ ys ∧ canon fs = ys ++ xs := by
  obtain ⟨xs, ys, e, _, ec⟩ := canon_split h
  exact ⟨xs, minP fs :: ys, e, ec⟩
theorem canon_canon {fs : List PT} (h : fs ≠ []) (hd : fs.Nodup) : canon (canon fs) = canon fs := by
  obtain ⟨xs, ys, e, ec⟩ := canon_form h
  rw [ec, canon_rot (by rw [← e]; exact hd) (by rw [← e]; exact h), ← e, ec]
/-! walks: what is drawn -/
theorem k_any {p q : Addr} {n : Int} {S : Sto} {P : PD} {X : PX} (hd : Deal S p q) (h0 : 0 < n) (hb : n ≤ 1000) (k : ∀ r S', 0 ≤ r → r < n → Deal S' p q → Fr p q S S' → P (.int r) S') : c__law_any [.ref p, .int n] S P X :=
  ⟨p, q, n, rfl, hd, h0, bd_s (by omega) (by decide), k⟩
theorem k_pick {p q : Addr} {es : List D} {S : Sto} {P : PD} {X : PX} (hd : Deal S p q) (h0 : es ≠ []) (hb : es.length ≤ 1000) (k : ∀ d ∈ es, ∀ S', Deal S' p q → Fr p q S S' → P d S') : c__law_of [.ref p, .lst es] S P X :=
  ⟨p, q, es, rfl, hd, h0, hb, k⟩
theorem g61 {n0 n1 n2 n3 n4 n5 : Nat} {a b c d e f : D} {r : PL.Env} {S : Sto} {R : PL.Env → Sto → Prop} {X : PX} : gTupD 6 (gConsD (gVar n0) (gConsD (gVar n1) (gConsD (gVar n2) (gConsD (gVar n3) (gConsD (gVar n4) (gConsD (gVar n5) gNilD)))))) (.tup [a, b, c, d, e, f]) r S R X = R ((((((r.set n0 (some a)).set n1 (some b)).set n2 (some c)).set n3 (some d)).set n4 (some e)).set n5 (some f)) S :=
  propext ⟨fun h => h.2.2, fun h => ⟨rfl, rfl, h⟩⟩
theorem xrevL {u : WE} {r : PL.Env} {S : Sto} {P : PD} {X : PX} {ds : List D} (h : ∀ P : PD, u r S P X = P (.lst ds) S) (k : P (.lst ds.reverse) S) : wRev u r S P X := by
  unfold wRev
  rw [h]
  exact k
theorem mem_di {d : D} {cs : List PT} (h : d ∈ cs.map DI) : ∃ c ∈ cs, d = DI c := by
  obtain ⟨c, hc, rfl⟩ := List.mem_map.mp h
  exact ⟨c, hc, rfl⟩
def ptD (g : PT → D) (d : D) : Option D := match d with
  | .tup [.int x, .int y] => some (g (x, y))
  | _ => none
theorem fm_di (g : PT → PT) : ∀ cs : List PT, (cs.map DI).filterMap (ptD fun c => DI (g c)) = (cs.map g).map DI
  | [] => rfl
  | c :: cs => by
    rw [List.map_cons, List.map_cons, List.map_cons, List.filterMap_cons, fm_di g cs]
    rfl
theorem wip910 {a0 a1 a2 a3 a4 a5 a6 a7 a8 a9 a10 : Option D} : wipeD [a0, a1, a2, a3, a4, a5, a6, a7, a8, a9, a10] [9, 10] = [a0, a1, a2, a3, a4, a5, a6, a7, a8, none, none] := id rfl
theorem does__law_put : Does c__law_put w__law_put N__law_put 2 := by
  rintro ds S P X ⟨a, b, c, d, e, f, cs, rfl, hr, ⟨hdet, ba, bb, bc, bd, be, bf⟩, h⟩
  refine ⟨rfl, ?_⟩
  show w__law_put_4 _ _ [some (RG cs), some (rlD a b c d e f), none, none, none, none, none, none, none, none, none] S
  have sm : ∀ {z : Int}, z.natAbs ≤ 2 → Bd 20 z := fun h => bd_s (by omega) (by decide)
  have sl : ∀ {z : Int}, z.natAbs ≤ 100 → Bd 20 z := fun h => bd_s (by omega) (by decide)
  simp only [w__law_put_4, xseq, w__law_put_3, xset, v1]
  show gTupD 6 _ (.tup [.int a, .int b, .int c, .int d, .int e, .int f]) _ _ _ _
  rw [g61]
  simp only [List.set_cons_succ, List.set_cons_zero, w__law_put_2, xseq, w__law_put_1, xset]
  refine lc_go (S1 := S) (ds := cs.map DI) (ptD fun x => DI (putP a b c d e f x)) (fun Q hq => ?_) (le_line (by rw [List.length_map]; have := hr.len; omega)) (fun p hp y hy acc R hR => ?_) ?_
  · simp only [xitems, v0]
    exact hq
  · obtain ⟨x, hx, rfl⟩ := mem_di hy
    obtain ⟨b1, b2⟩ := hr.bd x hx
    simp only [wip910]
    show gTupD 2 (gConsD (gVar 9) (gConsD (gVar 10) gNilD)) (.tup [.int x.1, .int x.2]) _ _ _ _
    rw [g2p]
    simp only [List.set_cons_succ, List.set_cons_zero, tYesD, if_true, xtup, xcons, xnil, x2, v3, v4, v5, v6, v7, PL.v8, PL.v9, v10, omulI, oaddI]
    exact ⟨(sm ba).cmul (sl b1) (by decide), (sm bb).cmul (sl b2) (by decide), (sm bc).cmul (sl b1) (by decide), (sm bd).cmul (sl b2) (by decide), two_line, hR⟩
  · rw [fm_di]
    simp only [g2, w__law_put_0, xret, xn, xcons, xnil, xif, xbl, x2, v3, v4, v5, v6, xc, omulI, osubI, ocmpI]
    refine ⟨(sm ba).cmul (sm bd) (by decide), (sm bb).cmul (sm bc) (by decide), ?_⟩
    unfold putL at h
    by_cases hp : 0 < a * d - b * c
    · rw [if_pos hp] at h
      simp only [decide_eq_true hp, if_true, v2, tup_lst]
      exact ⟨S, Sub.refl _, h⟩
    · rw [if_neg hp] at h
      simp only [decide_eq_false hp, Bool.false_eq_true, if_false]
      refine xrevL (fun P => v2) ?_
      rw [tup_lst, ← List.map_reverse]
      exact ⟨S, Sub.refl _, h⟩
theorem rg_put {a b c d e f : Int} {cs : List PT} (hr : Rl a b c d e f) (h : Rg 16 100 cs) : Rg 16 500 (putL a b c d e f cs) := by
  obtain ⟨hdet, ba, bb, bc, bd, be, bf⟩ := hr
  have hs := simple_put (a := a) (b := b) (c := c) (d := d) (e := e) (f := f) (by omega) h.simple
  have small : ∀ u v : Int, u.natAbs ≤ 2 → v.natAbs ≤ 100 → (u * v).natAbs ≤ 200 := fun u v hu hv => by
    rw [Int.natAbs_mul]
    exact Nat.le_trans (Nat.mul_le_mul hu hv) (by decide)
  have hb : ∀ x ∈ cs.map (putP a b c d e f), x.1.natAbs ≤ 500 ∧ x.2.natAbs ≤ 500 := fun x hx => by
    obtain ⟨y, hy, rfl⟩ := List.mem_map.mp hx
    obtain ⟨b1, b2⟩ := h.bd y hy
    have q1 := small a y.1 ba b1
    have q2 := small b y.2 bb b2
    have q3 := small c y.1 bc b1
    have q4 := small d y.2 bd b2
    unfold putP
    constructor <;> dsimp only <;> omega
  have hn : 0 < cs.length := by have := h.simple.len; omega
  have ar := arA_put (a := a) (b := b) (c := c) (d := d) (e := e) (f := f) hn
  have pa := h.area
  unfold putL
  split
  · rename_i hp
    have hd1 : a * d - b * c = 1 := by omega
    rw [hd1, Int.one_mul] at ar
    exact ⟨hs, by rw [ar]; exact pa, by rw [List.length_map]; exact h.len, hb⟩
  · rename_i hp
    have hd1 : a * d - b * c = -1 := by omega
    rw [hd1] at ar
    refine ⟨simple_rev hs, by rw [arA_rev _ (by rw [List.length_map]; exact hn), ar]; omega, by rw [List.length_reverse, List.length_map]; exact h.len, fun x hx => hb x (List.mem_reverse.mp hx)⟩
theorem k_put {a b c d e f : Int} {cs : List PT} {S : Sto} {P : PD} {X : PX} (h : Rg 16 100 cs) (hr : Rl a b c d e f) (k : P (RG (putL a b c d e f cs)) S) : c__law_put [RG cs, rlD a b c d e f] S P X := ⟨a, b, c, d, e, f, cs, rfl, h, hr, k⟩
def qd (a b c d : Int) : D := .tup [.int a, .int b, .int c, .int d]
def menuL : List D := [qd 1 0 0 1, qd 1 1 0 1, qd 1 0 1 1, qd 0 (-1) 1 0, qd (-1) 0 0 (-1), qd 2 1 1 1, qd 0 1 1 0, qd 1 0 0 (-1)]
theorem menu_ok {x : D} (h : x ∈ menuL) : ∃ a b c d : Int, x = qd a b c d ∧ (a * d - b * c = 1 ∨ a * d - b * c = -1) ∧ a.natAbs ≤ 2 ∧ b.natAbs ≤ 2 ∧ c.natAbs ≤ 2 ∧ d.natAbs ≤ 2 := by
  simp only [menuL, List.mem_cons, List.not_mem_nil, or_false] at h
  rcases h with rfl | rfl | rfl | rfl | rfl | rfl | rfl | rfl <;> exact ⟨_, _, _, _, rfl, by decide, by decide, by decide, by decide, by decide⟩
theorem does__law_map : Does c__law_map w__law_map N__law_map 1 := by
  rintro ds S P X ⟨p, q, rfl, hd, h⟩
  refine ⟨rfl, ?_⟩
  show w__law_map_2 _ _ [some (.ref p), none] S
  simp only [w__law_map_2, xseq, w__law_map_1, xset, xlst, xtup, xcons, xnil, x1, xc, onegI]
  simp only [show ∀ a b c d : D, [a, b, c, d].length ≤ sizeLine from fun _ _ _ _ => le_line (by simp), true_and]
  refine ⟨le_line (by simp), ?_⟩
  show gVar 1 (.lst menuL) _ _ _ _
  simp only [g1, w__law_map_0, xret, x2, xcall, xcons, xnil, v0, v1]
  refine k_pick hd (by simp [menuL]) (by simp [menuL]) fun x hx S1 hd1 f1 => ?_
  obtain ⟨a, b, c, d, rfl, hdet, ba, bb, bc, bdd⟩ := menu_ok hx
  simp only [xtup, xcons, xnil, x2, xcall, v0, xc]
  refine k_any hd1 (by decide) (by decide) fun e S2 e0 e1 hd2 f2 => ?_
  simp only [osubI]
  refine k_any hd2 (by decide) (by decide) fun f S3 g0 g1 hd3 f3 => ?_
  simp only [osubI]
  refine ⟨two_line, ?_⟩
  show _ ≤ sizeLine ∧ _
  refine ⟨le_line (by simp), S3, Sub.refl _, ?_⟩
  exact h a b c d (e - 50) (f - 50) S3 ⟨hdet, ba, bb, bc, bdd, by omega, by omega⟩ hd3 ((f1.trans f2).trans f3)
/-! walks: more corners, another first one -/
structure MI (cs : List PT) (i : Nat) (fs : List PT) : Prop where
  simple : Simple (fs ++ cs.drop i)
  len : fs.length ≤ 2 * i
  area : arA (fs ++ cs.drop i) = arA cs
  last : cix (fs ++ cs.drop i) ((fs.length : Int) - 1) = cix cs ((i : Int) - 1)
theorem mi_zero {cs : List PT} (h : Simple cs) : MI cs 0 [] := ⟨h, Nat.le_refl _, rfl, rfl⟩
theorem mi_next {cs fs gs : List PT} {i : Nat} (hi : i < cs.length) (M : MI cs i fs)
    (hg : gs = fs ∨ ∃ m : PT, gs = fs ++ [m] ∧ 2 * m.1 = (cix cs ((i : Int) - 1)).1 + (cix cs (i : Int)).1 ∧ 2 * m.2 = (cix cs ((i : Int) - 1)).2 + (cix cs (i : Int)).2) : MI cs (i + 1) (gs ++ [cix cs (i : Int)]) := by
  have ed : cs.drop i = cix cs (i : Int) :: cs.drop (i + 1) := by
    rw [cix_nat hi]; exact List.drop_eq_getElem_cons hi
  have hs := M.simple
  have hla := M.last
  have har := M.area
  rw [ed] at hs hla har
  have ea : gs ++ [cix cs (i : Int)] ++ cs.drop (i + 1) = gs ++ cix cs (i : Int) :: cs.drop (i + 1) := by simp
  refine ⟨?_, ?_, ?_, ?_⟩
  · rw [ea]
    rcases hg with rfl | ⟨m, rfl, m1, m2⟩
    · exact hs
    · have := simple_ins (m := m) hs (by rw [hla]; exact m1) (by rw [hla]; exact m2)
      simpa using this
  · have := M.len
    rcases hg with rfl | ⟨m, rfl, m1, m2⟩ <;> simp only [List.length_append, List.length_singleton] <;> omega
  · rw [ea]
    rcases hg with rfl | ⟨m, rfl, m1, m2⟩
    · exact har
    · have := arA_ins (xs := fs) (ys := cs.drop (i + 1)) (b := cix cs (i : Int)) (m := m) (by rw [hla]; exact m1) (by rw [hla]; exact m2)
      rw [← har, ← this]
      simp
  · rw [ea, show ((gs ++ [cix cs (i : Int)]).length : Int) - 1 = (gs.length : Int) by rw [List.length_append, List.length_singleton]; omega, show ((i + 1 : Nat) : Int) - 1 = (i : Int) by omega, cix_nat (by rw [List.length_append, List.length_cons]; omega), List.getElem_append_right (Nat.le_refl _)]
    simp
theorem near_di {n : Nat} {c : PT} (h : c.1.natAbs ≤ n ∧ c.2.natAbs ≤ n) : Nr n (DI c) := ⟨c, rfl, h⟩
theorem near_all {n : Nat} {cs : List PT} (h : ∀ c ∈ cs, c.1.natAbs ≤ n ∧ c.2.natAbs ≤ n) : ∀ y ∈ cs.map DI, Nr n y := fun y hy => by
  obtain ⟨c, hc, rfl⟩ := mem_di hy
  exact near_di (h c hc)
theorem DI_inj {a b : PT} (h : DI a = DI b) : a = b := by
  unfold DI at h
  injection h with h
  injection h with h1 h2
  injection h1 with h1
  injection h2 with h2 _
  injection h2 with h2
  exact Prod.ext h1 h2
theorem near_of {n : Nat} {cs : List PT} (h : ∀ y ∈ cs.map DI, Nr n y) : ∀ c ∈ cs, c.1.natAbs ≤ n ∧ c.2.natAbs ≤ n := fun c hc => by
  obtain ⟨a, e, b⟩ := h _ (List.mem_map_of_mem hc)
  rw [DI_inj e]; exact b
theorem near_cix {n : Nat} {cs : List PT} (hn : 0 < cs.length) (h : ∀ c ∈ cs, c.1.natAbs ≤ n ∧ c.2.natAbs ≤ n) (k : Int) : (cix cs k).1.natAbs ≤ n ∧ (cix cs k).2.natAbs ≤ n := by
  obtain ⟨r, hr, _, e⟩ := cix_eq hn k
  rw [e]; exact h _ (List.getElem_mem _)
section
variable {E : EndD} {Y : XS} {S S0 : Sto} {p q l : Addr} {cs fs : List PT} {z4 z5 : Option D}
theorem more_tail {i : Nat} (hi : i < cs.length) (hcs : Rg 16 500 cs) (M : MI cs i fs) {gs : List PT}
    (hg : gs = fs ∨ ∃ m : PT, gs = fs ++ [m] ∧ 2 * m.1 = (cix cs ((i : Int) - 1)).1 + (cix cs (i : Int)).1 ∧ 2 * m.2 = (cix cs ((i : Int) - 1)).2 + (cix cs (i : Int)).2) (T : Tl p q l 500 S0 S (gs.map DI))
    (h2 : ∀ S' fs', MI cs (i + 1) fs' → Tl p q l 500 S0 S' (fs'.map DI) → ∀ a b, E.nx [some (.ref p), some (RG cs), some (.ref l), some (.int (i : Int)), a, b] S') :
    w__law_more_3 E Y [some (.ref p), some (RG cs), some (.ref l), some (.int (i : Int)), z4, some (DI (cix cs (i : Int)))] S := by
  have hp : 0 < cs.length := by omega
  have M2 := mi_next hi M hg
  have ml := M2.len
  have cl := hcs.len
  simp only [w__law_more_3, xexpr, xapp, v2, isl T.at_l, PL.v5, app_at T.at_l, true_and]
  rw [List.length_append, List.length_singleton] at ml
  refine ⟨?_, ?_⟩
  · rw [List.length_map]; exact Nat.lt_of_lt_of_le (show gs.length < 1000 by omega) (le_line (Nat.le_refl _))
  · have e : gs.map DI ++ [DI (cix cs (i : Int))] = (gs ++ [cix cs (i : Int)]).map DI := by simp
    rw [e]
    refine h2 _ _ M2 (T.put fun y hy => ?_) _ _
    rw [List.map_append, List.mem_append] at hy
    rcases hy with hy | hy
    · exact T.near y hy
    · rw [List.map_singleton, List.mem_singleton] at hy
      rw [hy]
      exact near_di (near_cix hp hcs.bd _)
theorem more_body {i : Nat} (hi : i < cs.length) (hcs : Rg 16 500 cs) (M : MI cs i fs) (T : Tl p q l 500 S0 S (fs.map DI))
    (h2 : ∀ S' fs', MI cs (i + 1) fs' → Tl p q l 500 S0 S' (fs'.map DI) → ∀ a b, E.nx [some (.ref p), some (RG cs), some (.ref l), some (.int (i : Int)), a, b] S') :
    w__law_more_8 E Y [some (.ref p), some (RG cs), some (.ref l), some (.int (i : Int)), z4, z5] S := by
  have hp : 0 < cs.length := by omega
  have ml := M.len
  have cl := hcs.len
  simp only [w__law_more_8, xseq, w__law_more_7, xpar2, xcons, xnil, x2, v1, v3, xc, osubI]
  rw [ix_rg (by omega) (by omega), ix_rg (by omega) (by omega)]
  have tail := fun (gs : List PT) (S : Sto) (hg) (T : Tl p q l 500 S0 S (gs.map DI)) => more_tail (E := E) (Y := Y) (z4 := some (DI (cix cs ((i : Int) - 1)))) hi hcs M (gs := gs) hg T h2
  have ba := near_cix hp hcs.bd ((i : Int) - 1)
  have bb := near_cix hp hcs.bd (i : Int)
  clear h2
  generalize cix cs ((i : Int) - 1) = a at *
  generalize cix cs (i : Int) = b at *
  have t0 : w__law_more_3 E Y [some (.ref p), some (RG cs), some (.ref l), some (.int (i : Int)), some (DI a), some (DI b)] S := tail fs S (.inl rfl) T
  simp only [List.set_cons_succ, List.set_cons_zero, w__law_more_6, xseq, w__law_more_5, xsif, xandB, xbl, x2, xn, xcons, xnil, v4, PL.v5, xc, PL.iI0, iI1, oaddI, ointI, omodI, oeqI]
  refine ⟨by decide, ?_⟩
  by_cases e1 : (a.1 + b.1) % 2 = 0
  · simp only [decide_eq_true e1, if_true]
    refine ⟨by decide, ?_⟩
    by_cases e2 : (a.2 + b.2) % 2 = 0
    · simp only [decide_eq_true e2, if_true, xcall, xcons, xnil, v0, xc]
      refine k_any T.deal (by decide) (by decide) fun r S1 r0 r1 hd1 f1 => ?_
      simp only [oeqI]
      have T1 := T.step hd1 f1
      by_cases hr : r = 0
      · have b1 : Bd 20 (a.1 + b.1) := bd_s (by omega) (by decide)
        have b2 : Bd 20 (a.2 + b.2) := bd_s (by omega) (by decide)
        simp only [decide_eq_true hr, if_true, w__law_more_4, xexpr, xapp, v2, isl T1.at_l, true_and, xtup, xcons, xnil, x2, v4, PL.v5, xc, PL.iI0, iI1, oaddI, odivI]
        refine ⟨bd2.cdiv (by decide) (by decide), bd2.cdiv (by decide) (by decide), two_line, ?_⟩
        rw [app_at T1.at_l]
        refine ⟨?_, ?_⟩
        · rw [List.length_map]; exact Nat.lt_of_lt_of_le (show fs.length < 1000 by omega) (le_line (Nat.le_refl _))
        · have e : fs.map DI ++ [.tup [.int ((a.1 + b.1) / 2), .int ((a.2 + b.2) / 2)]] = (fs ++ [((a.1 + b.1) / 2, (a.2 + b.2) / 2)]).map DI := by simp [DI]
          rw [e]
          refine tail _ _ (.inr ⟨((a.1 + b.1) / 2, (a.2 + b.2) / 2), rfl, by dsimp only; omega, by dsimp only; omega⟩) (T1.put fun y hy => ?_)
          rw [List.map_append, List.mem_append] at hy
          rcases hy with hy | hy
          · exact T.near y hy
          · rw [List.map_singleton, List.mem_singleton] at hy
            rw [hy]
            exact near_di (by constructor <;> dsimp only <;> omega)
      · simp only [decide_eq_false hr, Bool.false_eq_true, if_false, xskip]
        exact tail fs S1 (.inl rfl) T1
    · simp only [decide_eq_false e2, Bool.false_eq_true, if_false, xskip]
      exact t0
  · simp only [decide_eq_false e1, Bool.false_eq_true, if_false, xskip]
    exact t0
theorem more_loop (hcs : Rg 16 500 cs) (h2 : ∀ S' fs', MI cs cs.length fs' → Tl p q l 500 S0 S' (fs'.map DI) → ∀ a b c, E.nx [some (.ref p), some (RG cs), some (.ref l), a, b, c] S') :
    ∀ (k i : Nat) (fs : List PT) (S : Sto) (z3 z4 z5 : Option D), i + k = cs.length → MI cs i fs → Tl p q l 500 S0 S (fs.map DI) →
    loopD (gVar 3) w__law_more_8 E Y (intsD (i : Int) k) [some (.ref p), some (RG cs), some (.ref l), z3, z4, z5] S
  | 0, i, fs, S, z3, z4, z5, hk, M, T => by
    have : i = cs.length := by omega
    subst this
    exact h2 S fs M T _ _ _
  | k + 1, i, fs, S, z3, z4, z5, hk, M, T => by
    rw [ints_cons]
    simp only [xloop, g3]
    refine more_body (by omega) hcs M T fun S' fs' M' T' a b => ?_
    rw [show (i : Int) + 1 = ((i + 1 : Nat) : Int) by omega]
    exact more_loop hcs h2 k (i + 1) fs' S' _ _ _ (by omega) M' T'
end
theorem len_ref {l : Addr} {es : List D} {S : Sto} {P : PD} (h : S l = some (.lst es)) : oLen [.ref l] S P = P (.int (es.length : Nat)) S := by
  unfold oLen seqOf
  simp only [h]
theorem osl_ref_to {l : Addr} {es : List D} {k : Nat} {S : Sto} {P : PD} (h : S l = some (.lst es)) : oSlice (.ref l) none (some (k : Int)) S P = P (.lst (es.take k)) S := by
  rw [← cut_to]
  unfold oSlice seqOf
  simp only [h]
theorem osl_ref_from {l : Addr} {es : List D} {k : Nat} {S : Sto} {P : PD} (h : S l = some (.lst es)) : oSlice (.ref l) (some (k : Int)) none S P = P (.lst (es.drop k)) S := by
  rw [← cut_from]
  unfold oSlice seqOf
  simp only [h]
theorem does__law_more : Does c__law_more w__law_more N__law_more 2 := by
  rintro ds S P X ⟨p, q, cs, rfl, hd, hcs, h⟩
  refine ⟨rfl, ?_⟩
  show w__law_more_12 _ _ [some (.ref p), some (RG cs), none, none, none, none] S
  have cl := hcs.len
  have c3 := hcs.simple.len
  simp only [w__law_more_12, xseq, w__law_more_11, xset, xnew, xnil]
  refine ⟨le_line (by simp), fun l hl => ?_⟩
  simp only [g2, w__law_more_10, xseq, w__law_more_9, xfor, xrngA, xcons, xnil, xn, v1, len_rg]
  refine ⟨by omega, ?_⟩
  rw [Int.toNat_natCast]
  have T0 : Tl p q l 500 S (sput S l (.lst [])) (([] : List PT).map DI) := ⟨hd.put (hd.neP hl) (hd.neQ hl), fun x _ _ h3 => sput_off h3, hl, hd.neP hl, hd.neQ hl, sput_at, fun y hy => by cases hy⟩
  refine more_loop (S0 := S) hcs ?_ cs.length 0 [] _ _ _ _ (by omega) (mi_zero hcs.simple) T0
  intro S1 fs M T a b c
  have hs : Simple fs := by have := M.simple; rwa [List.drop_length, List.append_nil] at this
  have fl := M.len
  have f3 := hs.len
  simp only [w__law_more_2, xseq, w__law_more_1, xset, xcall, xcons, xnil, xn, v0, v2, len_ref T.at_l]
  rw [List.length_map]
  refine k_any T.deal (by omega) (by omega) fun r S2 r0 r1 hd2 f2 => ?_
  obtain ⟨m, rfl⟩ := Int.eq_ofNat_of_zero_le r0
  have T2 := T.step hd2 f2
  simp only [g3, w__law_more_0, xret, xn, xcons, xnil, x2, slF, slT, v2, v3, osl_ref_to T2.at_l, osl_ref_from T2.at_l]
  rw [add_lst]
  refine ⟨?_, ?_⟩
  · rw [List.length_drop, List.length_take, List.length_map]; exact le_line (by omega)
  · rw [tup_lst, ← List.map_drop, ← List.map_take, ← List.map_append]
    obtain ⟨g1, g2⟩ := T2.gone
    refine ⟨sdel S2 l, sdel_sub _ _, h _ _ ⟨?_, ?_, ?_, ?_⟩ g1 g2⟩
    · refine simple_rot ?_
      rw [List.take_append_drop]; exact hs
    · have ar : arA (fs.drop m ++ fs.take m) = arA (fs.take m ++ fs.drop m) := arG_rot crz _ _
      have := M.area
      rw [List.drop_length, List.append_nil] at this
      rw [ar, List.take_append_drop, this]
      exact hcs.area
    · rw [List.length_append, List.length_drop, List.length_take]; omega
    · intro x hx
      refine near_of T.near x ?_
      rcases List.mem_append.mp hx with z | z
      · exact List.mem_of_mem_drop z
      · exact List.mem_of_mem_take z
theorem k_more {p q : Addr} {cs : List PT} {S : Sto} {P : PD} {X : PX} (hd : Deal S p q) (h : Rg 16 500 cs) (k : ∀ cs S', Rg 32 500 cs → Deal S' p q → Fr p q S S' → P (RG cs) S') : c__law_more [.ref p, RG cs] S P X := ⟨p, q, cs, rfl, hd, h, k⟩
/-! walks: rings round a centre, rings of two rows -/
def relL (R : D → D → Prop) : List D → List D → Prop
  | [], [] => True
  | d :: ds, e :: es => R d e ∧ relL R ds es
  | _, _ => False
theorem lc_rel {G : WG} {w : WE} {vs : List Nat} {env : PL.Env} {p : Addr} {k : Sto → Prop} (J : Sto → Prop) (R0 : D → D → Prop) : ∀ (ds acc : List D) (S : Sto), S p = some (.lst acc) → J S → acc.length + ds.length ≤ sizeLine →
    (∀ d ∈ ds, ∀ (acc : List D) (S : Sto), S p = some (.lst acc) → J S → ∀ R : Sto → Prop, (∀ S1 y, S1 p = some (.lst acc) → R0 d y → J (sput S1 p (.lst (acc ++ [y]))) → lcPut p y R S1) → G d (wipeD env vs) S (fun e1 S1 => w e1 S1 (fun y S3 => lcPut p y R S3) (fun _ _ => False)) (fun _ _ => False)) →
    (∀ (out es : List D) (S : Sto), S p = some (.lst out) → J S → out = acc ++ es → relL R0 ds es → k S) → lcD G tYesD w vs env p k ds S
  | [], acc, S, hp, hI, _, _, h => h acc [] S hp hI (List.append_nil _).symm trivial
  | d :: ds, acc, S, hp, hI, hl, hs, h => by
    rw [List.length_cons] at hl
    refine hs d List.mem_cons_self acc S hp hI _ fun S1 y h1 hy hI1 => ?_
    unfold lcPut
    simp only [h1]
    refine ⟨by omega, lc_rel J R0 ds (acc ++ [y]) _ sput_at hI1 (by rw [List.length_append, List.length_singleton]; omega) (fun d' hd => hs d' (List.mem_cons_of_mem _ hd)) fun out es S ho hI2 e hr => h out (y :: es) S ho hI2 (by rw [e]; simp) ⟨hy, hr⟩⟩
theorem drawnR {G : WG} {w : WE} {vs : List Nat} {env : PL.Env} {S : Sto} {k : Addr → Sto → Prop} {p q : Addr} (R0 : D → D → Prop) (ds : List D) (hd : Deal S p q) (hm : ds.length ≤ 1000)
    (hi : ∀ d ∈ ds, ∀ (S1 : Sto), Deal S1 p q → ∀ R : D → Sto → Prop, (∀ y S2, R0 d y → Deal S2 p q → Fr p q S1 S2 → R y S2) → G d (wipeD env vs) S1 (fun e1 S2 => w e1 S2 R (fun _ _ => False)) (fun _ _ => False))
    (h : ∀ l S' es, S l = none → S' l = some (.lst es) → relL R0 ds es → Deal S' p q → Fr3 p q l S S' → k l S') : ∀ l, S l = none → lcD G tYesD w vs env l (k l) ds (sput S l (.lst [])) := fun l hl => by
  have nlp := hd.neP hl
  have nlq := hd.neQ hl
  refine lc_rel (fun S' => Deal S' p q ∧ Fr3 p q l S S') R0 ds [] _ sput_at ⟨hd.put nlp nlq, fun x _ _ c => sput_off c⟩ (le_line (by simpa using hm)) (fun d hdm acc S1 hp ⟨hd1, hf⟩ R hR => ?_) fun out es S' ho ⟨hd1, hf⟩ e hr => h l S' es hl (by rw [ho, e]; rfl) hr hd1 hf
  refine hi d hdm S1 hd1 (fun y S3 => lcPut l y R S3) fun y S2 hy hd2 fr => hR S2 y (by rw [fr l nlp nlq]; exact hp) hy ⟨hd2.put nlp nlq, fun x a b c => ?_⟩
  rw [sput_off c, fr x a b]; exact hf x a b c
theorem wip5_4 {a b c d e : Option D} : wipeD [a, b, c, d, e] [4] = [a, b, c, d, none] := id rfl
/-- what a row's corner is: b + s times a number below 20 -/
def RowR (b s : Int) (d y : D) : Prop := ∃ i r : Int, d = .int i ∧ y = DI (20 * i, b + s * r) ∧ 0 ≤ r ∧ r < 20
theorem wave2 {a b : Int} (a0 : 0 ≤ a) (a1 : a < 20) (b0 : 0 ≤ b) (b1 : b < 20) : Rg 16 100 [(0, 0), (20, -20 - a), (40, 0), (20, 20 + b)] := by
  refine ⟨wave_simple 2 (by decide) rfl (fun k => [0, -20 - a, 0, 20 + b].getD k 0) (fun k hk => ?_) (fun k h1 h2 => ?_) rfl rfl rfl (fun k h1 h2 => ?_) (fun k h1 h2 => ?_), (by simp [arG, cix, List.range_succ, crz] <;> omega), by simp, fun c hc => ?_⟩
  · have : k = 0 ∨ k = 1 ∨ k = 2 := by omega
    rcases this with rfl | rfl | rfl <;> first | rfl | (rw [← cix_sub]; rfl)
  · have : k = 2 ∨ k = 3 ∨ k = 4 := by omega
    rcases this with rfl | rfl | rfl <;> first | rfl | (rw [← cix_sub]; rfl)
  · have : k = 1 := by omega
    subst this; show -20 - a < 0; omega
  · have : k = 3 := by omega
    subst this; show 0 < 20 + b; omega
  · simp only [List.mem_cons, List.not_mem_nil, or_false] at hc
    rcases hc with rfl | rfl | rfl | rfl <;> constructor <;> dsimp only <;> omega
theorem wave3 {a b c d : Int} (a0 : 0 ≤ a) (a1 : a < 20) (b0 : 0 ≤ b) (b1 : b < 20) (c0 : 0 ≤ c) (c1 : c < 20) (d0 : 0 ≤ d) (d1 : d < 20) : Rg 16 100 [(0, 0), (20, -20 - a), (40, -20 - b), (60, 0), (40, 20 + d), (20, 20 + c)] := by
  refine ⟨wave_simple 3 (by decide) rfl (fun k => [0, -20 - a, -20 - b, 0, 20 + d, 20 + c].getD k 0) (fun k hk => ?_) (fun k h1 h2 => ?_) rfl rfl rfl (fun k h1 h2 => ?_) (fun k h1 h2 => ?_), (by simp [arG, cix, List.range_succ, crz] <;> omega), by simp, fun c hc => ?_⟩
  · have : k = 0 ∨ k = 1 ∨ k = 2 ∨ k = 3 := by omega
    rcases this with rfl | rfl | rfl | rfl <;> first | rfl | (rw [← cix_sub]; rfl)
  · have : k = 3 ∨ k = 4 ∨ k = 5 ∨ k = 6 := by omega
    rcases this with rfl | rfl | rfl | rfl <;> first | rfl | (rw [← cix_sub]; rfl)
  · have : k = 1 ∨ k = 2 := by omega
    rcases this with rfl | rfl
    · show -20 - a < 0; omega
    · show -20 - b < 0; omega
  · have : k = 4 ∨ k = 5 := by omega
    rcases this with rfl | rfl
    · show 0 < 20 + d; omega
    · show 0 < 20 + c; omega
  · simp only [List.mem_cons, List.not_mem_nil, or_false] at hc
    rcases hc with rfl | rfl | rfl | rfl | rfl | rfl <;> constructor <;> dsimp only <;> omega
theorem wave4 {a b c d e f : Int} (a0 : 0 ≤ a) (a1 : a < 20) (b0 : 0 ≤ b) (b1 : b < 20) (c0 : 0 ≤ c) (c1 : c < 20) (d0 : 0 ≤ d) (d1 : d < 20) (e0 : 0 ≤ e) (e1 : e < 20) (f0 : 0 ≤ f) (f1 : f < 20) : Rg 16 100 [(0, 0), (20, -20 - a), (40, -20 - b), (60, -20 - c), (80, 0), (60, 20 + f), (40, 20 + e), (20, 20 + d)] := by
  refine ⟨wave_simple 4 (by decide) rfl (fun k => [0, -20 - a, -20 - b, -20 - c, 0, 20 + f, 20 + e, 20 + d].getD k 0) (fun k hk => ?_) (fun k h1 h2 => ?_) rfl rfl rfl (fun k h1 h2 => ?_) (fun k h1 h2 => ?_), (by simp [arG, cix, List.range_succ, crz] <;> omega), by simp, fun c hc => ?_⟩
  · have : k = 0 ∨ k = 1 ∨ k = 2 ∨ k = 3 ∨ k = 4 := by omega
    rcases this with rfl | rfl | rfl | rfl | rfl <;> first | rfl | (rw [← cix_sub]; rfl)
  · have : k = 4 ∨ k = 5 ∨ k = 6 ∨ k = 7 ∨ k = 8 := by omega
    rcases this with rfl | rfl | rfl | rfl | rfl <;> first | rfl | (rw [← cix_sub]; rfl)
  · have : k = 1 ∨ k = 2 ∨ k = 3 := by omega
    rcases this with rfl | rfl | rfl
    · show -20 - a < 0; omega
    · show -20 - b < 0; omega
    · show -20 - c < 0; omega
  · have : k = 5 ∨ k = 6 ∨ k = 7 := by omega
    rcases this with rfl | rfl | rfl
    · show 0 < 20 + f; omega
    · show 0 < 20 + e; omega
    · show 0 < 20 + d; omega
  · simp only [List.mem_cons, List.not_mem_nil, or_false] at hc
    rcases hc with rfl | rfl | rfl | rfl | rfl | rfl | rfl | rfl <;> constructor <;> dsimp only <;> omega
def rowV (rs : List Int) (b s : Int) : List D := rs.mapIdx fun i r => DI (20 * ((i : Int) + 1), b + s * r)
/-- the rows, told as numbers -/
theorem row_of {b s : Int} : ∀ (n : Nat) (lo : Int) (es : List D), relL (RowR b s) (intsD lo n) es → ∃ rs : List Int, rs.length = n ∧ (∀ r ∈ rs, 0 ≤ r ∧ r < 20) ∧ es = rs.mapIdx fun i r => DI (20 * (lo + (i : Nat)), b + s * r)
  | 0, lo, es, h => by
    cases es with
    | nil => exact ⟨[], rfl, (fun _ z => by cases z), rfl⟩
    | cons e es => exact h.elim
  | n + 1, lo, es, h => by
    rw [ints_cons] at h
    cases es with
    | nil => exact h.elim
    | cons e es =>
      obtain ⟨⟨i, r, e1, e2, r0, r1⟩, h⟩ := h
      injection e1 with e1
      obtain ⟨rs, hl, hb, he⟩ := row_of n (lo + 1) es h
      refine ⟨r :: rs, by rw [List.length_cons, hl], ?_, ?_⟩
      · intro x hx
        rcases List.mem_cons.mp hx with rfl | hx
        · exact ⟨r0, r1⟩
        · exact hb x hx
      · rw [List.mapIdx_cons, e2, he, ← e1]
        refine congr (congrArg _ ?_) ?_
        · simp
        · congr 1
          funext i r
          rw [show lo + 1 + (i : Int) = lo + ((i + 1 : Nat) : Int) by omega]
theorem wave_fin {m : Int} {P : PD} {S S0 S1 : Sto} {p q : Addr} {as bs : List Int} (hm : 2 ≤ m ∧ m ≤ 4) (ha : as.length = (m - 1).toNat) (hb : bs.length = (m - 1).toNat) (a0 : ∀ r ∈ as, 0 ≤ r ∧ r < 20) (b0 : ∀ r ∈ bs, 0 ≤ r ∧ r < 20)
    (h : ∀ cs, Rg 16 100 cs → P (RG cs) S) : ∀ ds, ds = [DI (0, 0)] ++ (as.mapIdx fun i r => DI (20 * (1 + (i : Nat)), -20 + -1 * r)) ++ [DI (20 * m, 0)] ++ (bs.mapIdx fun i r => DI (20 * (1 + (i : Nat)), 20 + 1 * r)).reverse → P (.tup ds) S := by
  rintro ds rfl
  have ea : ∀ r : Int, -20 + -r = -20 - r := fun r => by omega
  have eb : ∀ r : Int, 20 + 1 * r = 20 + r := fun r => by omega
  have : m = 2 ∨ m = 3 ∨ m = 4 := by omega
  rcases this with rfl | rfl | rfl
  · match as, bs, ha, hb with
    | [a], [b], _, _ =>
      have := h _ (wave2 (a0 a (by simp)).1 (a0 a (by simp)).2 (b0 b (by simp)).1 (b0 b (by simp)).2)
      simpa [RG, ea, eb, List.mapIdx_cons] using this
  · match as, bs, ha, hb with
    | [a, b], [c, d], _, _ =>
      have := h _ (wave3 (a0 a (by simp)).1 (a0 a (by simp)).2 (a0 b (by simp)).1 (a0 b (by simp)).2 (b0 c (by simp)).1 (b0 c (by simp)).2 (b0 d (by simp)).1 (b0 d (by simp)).2)
      simpa [RG, ea, eb, List.mapIdx_cons] using this
  · match as, bs, ha, hb with
    | [a, b, c], [d, e, f], _, _ =>
      have := h _ (wave4 (a0 a (by simp)).1 (a0 a (by simp)).2 (a0 b (by simp)).1 (a0 b (by simp)).2 (a0 c (by simp)).1 (a0 c (by simp)).2 (b0 d (by simp)).1 (b0 d (by simp)).2 (b0 e (by simp)).1 (b0 e (by simp)).2 (b0 f (by simp)).1 (b0 f (by simp)).2)
      simpa [RG, ea, eb, List.mapIdx_cons] using this
theorem does__law_wave : Does c__law_wave w__law_wave N__law_wave 2 := by
  rintro ds S P X ⟨p, q, m, rfl, hd, m2, m4, h⟩
  refine ⟨rfl, ?_⟩
  show w__law_wave_4 _ _ [some (.ref p), some (.int m), none, none, none] S
  have hlen : (intsD 1 (m - 1).toNat).length ≤ 1000 := by rw [ints_len]; omega
  simp only [w__law_wave_4, xseq, w__law_wave_3, xset]
  unfold wLc
  simp only [xrng2, xcons, xnil, v1, xc]
  refine ⟨by omega, ?_⟩
  refine drawnR (p := p) (q := q) (RowR (-20) (-1)) _ hd hlen (fun d hdm S1 hd1 R hR => ?_) fun l S1 es hl hat hrel hd1 f1 => ?_
  · obtain ⟨i, rfl, i0, i1⟩ := mem_ints hdm
    simp only [wip5_4, g4, xtup, xcons, xnil, x2, x1, xcall, v0, v4, xc, omulI, onegI]
    refine ⟨(bd_s (show (20 : Int).natAbs ≤ 1000000 by decide) (Nat.le_refl 20)).cmul (bd_s (show i.natAbs ≤ 1000000 by omega) (Nat.le_refl 20)) (by decide), ?_⟩
    refine k_any hd1 (by decide) (by decide) fun r S2 r0 r1 hd2 f2 => ?_
    simp only [osubI]
    refine ⟨two_line, hR _ _ ⟨i, r, rfl, ?_, r0, r1⟩ hd2 f2⟩
    show D.tup [.int (20 * i), .int (-20 - r)] = .tup [.int (20 * i), .int (-20 + -1 * r)]
    rw [show -20 - r = -20 + -1 * r by omega]
  · obtain ⟨as, ha, a0, rfl⟩ := row_of _ _ _ hrel
    refine lcEnd_i hat ?_
    have hd2 := deal_del hd1 (hd.neP hl) (hd.neQ hl)
    have f2 := fr_del f1 hl
    simp only [g2, w__law_wave_2, xseq, w__law_wave_1, xset]
    unfold wLc
    simp only [xrng2, xcons, xnil, v1, xc]
    refine ⟨by omega, ?_⟩
    refine drawnR (p := p) (q := q) (RowR 20 1) _ hd2 hlen (fun d hdm S1 hd1 R hR => ?_) fun l2 S3 es hl2 hat2 hrel2 hd3 f3 => ?_
    · obtain ⟨i, rfl, i0, i1⟩ := mem_ints hdm
      simp only [wip5_4, g4, xtup, xcons, xnil, x2, x1, xcall, v0, v4, xc, omulI, onegI]
      refine ⟨(bd_s (show (20 : Int).natAbs ≤ 1000000 by decide) (Nat.le_refl 20)).cmul (bd_s (show i.natAbs ≤ 1000000 by omega) (Nat.le_refl 20)) (by decide), ?_⟩
      refine k_any hd1 (by decide) (by decide) fun r S2 r0 r1 hd2 f2 => ?_
      simp only [oaddI]
      refine ⟨two_line, hR _ _ ⟨i, r, rfl, ?_, r0, r1⟩ hd2 f2⟩
      show D.tup [.int (20 * i), .int (20 + r)] = .tup [.int (20 * i), .int (20 + 1 * r)]
      rw [show 20 + r = 20 + 1 * r by omega]
    · obtain ⟨bs, hb, b0, rfl⟩ := row_of _ _ _ hrel2
      refine lcEnd_i hat2 ?_
      have hd4 := deal_del hd3 (hd2.neP hl2) (hd2.neQ hl2)
      have f4 := f2.trans (fr_del f3 hl2)
      simp only [g3, w__law_wave_0, xret, xn, x2, xcons, xnil, xlst, xtup, v1, v2, xc, omulI]
      refine ⟨two_line, le_line (by simp), ?_⟩
      rw [add_lst]
      refine ⟨le_line (by simp only [List.length_append, List.length_mapIdx, List.length_cons, List.length_nil]; omega), (bd_s (show (20 : Int).natAbs ≤ 1000000 by decide) (Nat.le_refl 20)).cmul (bd_s (show m.natAbs ≤ 1000000 by omega) (Nat.le_refl 20)) (by decide), two_line, le_line (by simp), ?_⟩
      rw [add_lst]
      refine ⟨le_line (by simp only [List.length_append, List.length_mapIdx, List.length_cons, List.length_nil]; omega), ?_⟩
      refine xrevL (fun P => v3) ?_
      rw [add_lst]
      refine ⟨le_line (by simp only [List.length_append, List.length_reverse, List.length_mapIdx, List.length_cons, List.length_nil]; omega), ?_⟩
      rw [tup_lst]
      refine ⟨_, Sub.refl _, ?_⟩
      exact wave_fin (S0 := S) (S1 := S) (p := p) (q := q) ⟨m2, m4⟩ ha hb a0 b0 (fun cs hcs => h cs _ hcs hd4 f4) _ rfl
/-! walks: a ring round a centre -/
def I1 (n : Nat) : D := .int (n : Int)
def wayL (n : Nat) : List PT := (List.range n).map W
theorem way8 : (wayL 8).map DI ++ ((wayL 8).map fun c => (0 - c.1, 0 - c.2)).map DI = (wayL 16).map DI := by
  rw [← List.map_append]
  exact congrArg _ (by decide +kernel)
theorem tup_ref {l : Addr} {es : List D} {S : Sto} {P : PD} (h : S l = some (.lst es)) : oTuple [.ref l] S P = P (.tup es) S := by
  unfold oTuple seqOf
  simp only [h]
theorem any_ints (n : Int) (ns : List Int) : ((toPL (ns.map D.int)).any fun z => PyData.eqv z (toP (.int n))) = decide (n ∈ ns) := by
  induction ns with
  | nil => simp [toPL]
  | cons m ns ih =>
    have e : toPL ((m :: ns).map D.int) = toP (.int m) :: toPL (ns.map D.int) := by simp [toPL]
    have e2 : PyData.eqv (toP (.int m)) (toP (.int n)) = decide (m = n) := by
      rw [Bool.eq_iff_iff]; simp [toP, PyData.eqv]
    rw [e, List.any_cons, e2, ih, Bool.eq_iff_iff, Bool.or_eq_true, decide_eq_true_eq, decide_eq_true_eq, decide_eq_true_eq, List.mem_cons]
    exact or_congr_left ⟨Eq.symm, Eq.symm⟩
theorem in_ints {n : Int} {ns : List Int} {S : Sto} {P : PD} (k : P (.bl (decide (n ∈ ns))) S) : oIn (.int n) (.lst (ns.map D.int)) S P :=
  ⟨ns.map D.int, rfl, rfl, ok_ints ns, by
    show P (.bl ((toPL (ns.map D.int)).any fun z => PyData.eqv z (toP (.int n)))) S
    rw [any_ints]; exact k⟩
theorem fm_if {α : Type} (p : α → Bool) (g : α → D) : ∀ l : List α, l.filterMap (fun j => if p j = true then some (g j) else none) = (l.filter p).map g
  | [] => rfl
  | a :: l => by
    rw [List.filterMap_cons, List.filter_cons, fm_if p g l]
    by_cases h : p a = true
    · rw [if_pos h, if_pos h]; rfl
    · rw [if_neg h, if_neg h]
theorem ints_range (a n : Nat) : intsD (a : Int) n = (List.range' a n).map I1 := by
  unfold intsD
  rw [List.range'_eq_map_range, List.map_map]
  refine List.map_congr_left fun k _ => ?_
  show D.int _ = D.int _
  congr 1
def inq (ns : List Int) (j : Nat) : Bool := decide ((j : Int) ∈ ns)
def pickF (ns : List Int) (d : D) : Option D := match d with
  | .int i => if i ∈ ns then some (.int i) else none
  | _ => none
theorem pick_fm (ns : List Int) (a n : Nat) : (intsD (a : Int) n).filterMap (pickF ns) = ((List.range' a n).filter (inq ns)).map I1 := by
  rw [ints_range, List.filterMap_map, ← fm_if]
  congr 1
  funext j
  show pickF ns (.int (j : Int)) = _
  unfold pickF inq
  by_cases h : (j : Int) ∈ ns
  · simp [h, I1]
  · simp [h]
/-- the places drawn in the quarters so far -/
structure QI (k : Nat) (pl : List Nat) : Prop where
  up : pl.Pairwise (· < ·)
  lt : ∀ d ∈ pl, d < 4 * k
  hit : ∀ q : Nat, q < k → ∃ d ∈ pl, 4 * q ≤ d ∧ d < 4 * q + 4
  len : pl.length ≤ 4 * k
theorem qi_next {k : Nat} {pl : List Nat} {ns : List Int} (h : QI k pl) (hn : ns ≠ []) (hb : ∀ n ∈ ns, (4 * k : Nat) ≤ n ∧ n < (4 * k + 4 : Nat)) : QI (k + 1) (pl ++ (List.range' (4 * k) 4).filter (inq ns)) := by
  have hf : ∀ d ∈ (List.range' (4 * k) 4).filter (inq ns), 4 * k ≤ d ∧ d < 4 * k + 4 := fun d hd => by
    have := (List.mem_filter.mp hd).1
    rw [List.mem_range'_1] at this
    exact this
  refine ⟨?_, ?_, ?_, ?_⟩
  · rw [List.pairwise_append]
    refine ⟨h.up, List.Pairwise.filter _ List.pairwise_lt_range', fun a ha b hb => ?_⟩
    have := h.lt a ha
    have := hf b hb
    omega
  · intro d hd
    rcases List.mem_append.mp hd with z | z
    · have := h.lt d z; omega
    · have := hf d z; omega
  · intro q hq
    by_cases e : q = k
    · subst e
      obtain ⟨n, r, rfl⟩ := List.exists_cons_of_ne_nil hn
      obtain ⟨b1, b2⟩ := hb n List.mem_cons_self
      refine ⟨n.toNat, List.mem_append.mpr (.inr (List.mem_filter.mpr ⟨by rw [List.mem_range'_1]; omega, ?_⟩)), by omega, by omega⟩
      unfold inq
      rw [Int.toNat_of_nonneg (by omega)]
      exact decide_eq_true List.mem_cons_self
    · obtain ⟨d, hd, b⟩ := h.hit q (by omega)
      exact ⟨d, List.mem_append.mpr (.inl hd), b⟩
  · have := h.len
    have := List.length_filter_le (inq ns) (List.range' (4 * k) 4)
    rw [List.length_range'] at this
    rw [List.length_append]
    omega
theorem drew_ints {N : Int → Prop} : ∀ {es : List D}, (∀ y ∈ es, ∃ i, y = D.int i ∧ N i) → ∃ ns : List Int, es = ns.map D.int ∧ ∀ n ∈ ns, N n
  | [], _ => ⟨[], rfl, fun _ z => by cases z⟩
  | e :: es, h => by
    obtain ⟨i, rfl, hi⟩ := h e List.mem_cons_self
    obtain ⟨ns, rfl, hb⟩ := drew_ints (es := es) fun y hy => h y (List.mem_cons_of_mem _ hy)
    refine ⟨i :: ns, rfl, fun n hn => ?_⟩
    rcases List.mem_cons.mp hn with rfl | hn
    · exact hi
    · exact hb n hn
theorem wip14_11 {a0 a1 a2 a3 a4 a5 a6 a7 a8 a9 a10 a11 a12 a13 : Option D} : wipeD [a0, a1, a2, a3, a4, a5, a6, a7, a8, a9, a10, a11, a12, a13] [11] = [a0, a1, a2, a3, a4, a5, a6, a7, a8, a9, a10, none, a12, a13] := id rfl
theorem wip14_8 {a0 a1 a2 a3 a4 a5 a6 a7 a8 a9 a10 a11 a12 a13 : Option D} : wipeD [a0, a1, a2, a3, a4, a5, a6, a7, a8, a9, a10, a11, a12, a13] [8] = [a0, a1, a2, a3, a4, a5, a6, a7, none, a9, a10, a11, a12, a13] := id rfl
theorem wip14_12 {a0 a1 a2 a3 a4 a5 a6 a7 a8 a9 a10 a11 a12 a13 : Option D} : wipeD [a0, a1, a2, a3, a4, a5, a6, a7, a8, a9, a10, a11, a12, a13] [12, 13] = [a0, a1, a2, a3, a4, a5, a6, a7, a8, a9, a10, a11, none, none] := id rfl
section
variable {E : EndD} {Y : XS} {S S0 : Sto} {p q : Addr} {z7 z8 z9 z10 z11 z12 z13 : Option D}
theorem star_q {k : Nat} {pl : List Nat} (hk : k < 4) (hd : Deal S p q) (hf : Fr p q S0 S) (Q : QI k pl)
    (h2 : ∀ S' pl', QI (k + 1) pl' → Deal S' p q → Fr p q S0 S' → ∀ a b c d e f g, E.nx [some (.ref p), some (DI (0, 0)), some (.int 9), some (.int 3), some (.lst ((wayL 16).map DI)), some (.lst (pl'.map I1)), some (.int (k : Int)), a, b, c, d, e, f, g] S') :
    w__law_star_10 E Y [some (.ref p), some (DI (0, 0)), some (.int 9), some (.int 3), some (.lst ((wayL 16).map DI)), some (.lst (pl.map I1)), some (.int (k : Int)), z7, z8, z9, z10, z11, z12, z13] S := by
  have b4 : ∀ {z : Int}, z.natAbs ≤ 100 → Bd 20 z := fun h => bd_s (by omega) (by decide)
  have pll := Q.len
  simp only [w__law_star_10, xseq, w__law_star_9, xset]
  unfold wLc
  simp only [xrngA, xcons, xnil, x2, xcall, v0, v3, xc]
  refine k_any hd (by decide) (by decide) fun m S1 m0 m1 hd1 f1 => ?_
  simp only [oaddI]
  refine ⟨by omega, ?_⟩
  refine drawn (m := (1 + m).toNat) (p := p) (q := q) (fun y => ∃ i : Int, y = .int i ∧ ((4 * k : Nat) : Int) ≤ i ∧ i < ((4 * k + 4 : Nat) : Int)) _ (by rw [ints_len]) hd1 (by omega) (fun d hdm S2 hd2 R hR => ?_) fun l S2 es hl hat hlen hn hd2 f3 => ?_
  · obtain ⟨i, rfl, i0, i1⟩ := mem_ints hdm
    simp only [wip14_11, g11, x2, xcall, xcons, xnil, v0, v6, xc, omulI]
    refine ⟨(b4 (show (4 : Int).natAbs ≤ 100 by decide)).cmul (b4 (by omega)) (by decide), ?_⟩
    refine k_any hd2 (by decide) (by decide) fun r S3 r0 r1 hd3 f3 => ?_
    simp only [oaddI]
    exact hR _ _ ⟨_, rfl, by omega, by omega⟩ hd3 f3
  · obtain ⟨ns, rfl, hb⟩ := drew_ints hn
    refine lcEnd_i hat ?_
    have hd3 := deal_del hd2 (hd1.neP hl) (hd1.neQ hl)
    have f4 := (hf.trans f1).trans (fr_del f3 hl)
    have hne : ns ≠ [] := fun z => by
      rw [z] at hlen
      simp at hlen
      omega
    simp only [PL.g9, w__law_star_8, xset, x2, PL.v5]
    refine lc_go (S1 := sdel S2 l) (ds := intsD ((4 * k : Nat) : Int) 4) (pickF ns) (fun R hR => ?_) (le_line (by rw [ints_len]; decide)) (fun a ha y hy acc R hR => ?_) ?_
    · simp only [xrng2, xcons, xnil, x2, v6, xc, omulI, oaddI]
      refine ⟨(b4 (show (4 : Int).natAbs ≤ 100 by decide)).cmul (b4 (by omega)) (by decide), (b4 (show (4 : Int).natAbs ≤ 100 by decide)).cmul (b4 (by omega)) (by decide), by omega, ?_⟩
      rw [show (4 * (k : Int) + 4 - 4 * (k : Int)).toNat = 4 by omega, show (4 * (k : Int)) = ((4 * k : Nat) : Int) by omega]
      exact hR
    · obtain ⟨i, rfl, i0, i1⟩ := mem_ints hy
      simp only [wip14_8, PL.g8, xbl, x2, PL.v8, PL.v9]
      refine in_ints ?_
      unfold pickF at hR
      by_cases hm : i ∈ ns
      · simp only [hm, decide_true, if_true] at hR ⊢
        exact hR
      · simp only [hm, decide_false, Bool.false_eq_true, if_false] at hR ⊢
        exact hR
    · rw [pick_fm, add_lst]
      have fl := List.length_filter_le (inq ns) (List.range' (4 * k) 4)
      rw [List.length_range'] at fl
      refine ⟨?_, ?_⟩
      · rw [List.length_map, List.length_map]; exact le_line (by omega)
      · rw [← List.map_append]
        simp only [PL.g5]
        exact h2 _ _ (qi_next Q hne hb) hd3 f4 _ _ _ _ _ _ _
theorem star_ql (h2 : ∀ S' pl', QI 4 pl' → Deal S' p q → Fr p q S0 S' → ∀ a b c d e f g h, E.nx [some (.ref p), some (DI (0, 0)), some (.int 9), some (.int 3), some (.lst ((wayL 16).map DI)), some (.lst (pl'.map I1)), a, b, c, d, e, f, g, h] S') :
    ∀ (n k : Nat) (pl : List Nat) (S : Sto) (z6 z7 z8 z9 z10 z11 z12 z13 : Option D), k + n = 4 → QI k pl → Deal S p q → Fr p q S0 S →
    loopD (gVar 6) w__law_star_10 E Y (intsD (k : Int) n) [some (.ref p), some (DI (0, 0)), some (.int 9), some (.int 3), some (.lst ((wayL 16).map DI)), some (.lst (pl.map I1)), z6, z7, z8, z9, z10, z11, z12, z13] S
  | 0, k, pl, S, z6, z7, z8, z9, z10, z11, z12, z13, hk, Q, hd, hf => by
    have : k = 4 := by omega
    subst this
    exact h2 S pl Q hd hf _ _ _ _ _ _ _ _
  | n + 1, k, pl, S, z6, z7, z8, z9, z10, z11, z12, z13, hk, Q, hd, hf => by
    rw [ints_cons]
    simp only [xloop, PL.g6]
    refine star_q (by omega) hd hf Q fun S' pl' Q' hd' hf' a b c d e f g => ?_
    rw [show (k : Int) + 1 = ((k + 1 : Nat) : Int) by omega]
    exact star_ql h2 n (k + 1) pl' S' _ _ _ _ _ _ _ _ (by omega) Q' hd' hf'
end
theorem w_small (i : Nat) : (W i).1.natAbs ≤ 2 ∧ (W i).2.natAbs ≤ 2 := by
  have : ∀ r < 16, (W r).1.natAbs ≤ 2 ∧ (W r).2.natAbs ≤ 2 := by decide +kernel
  rw [W_mod]
  exact this _ (Nat.mod_lt _ (by decide))
theorem stP_small {s : Nat × Int} (h : 0 < s.2 ∧ s.2 ≤ 9) : (stP s).1.natAbs ≤ 100 ∧ (stP s).2.natAbs ≤ 100 := by
  obtain ⟨a, b⟩ := w_small s.1
  have hs : s.2.natAbs ≤ 9 := by omega
  unfold stP
  dsimp only
  rw [Int.natAbs_mul, Int.natAbs_mul]
  exact ⟨Nat.le_trans (Nat.mul_le_mul hs a) (by decide), Nat.le_trans (Nat.mul_le_mul hs b) (by decide)⟩
section
variable {E : EndD} {Y : XS} {S0 : Sto} {p q l : Addr} {pl : List Nat} {z6 z9 z11 z12 z13 : Option D}
theorem star_fl (h2 : ∀ (S' : Sto) (st' : List (Nat × Int)), st'.map Prod.fst = pl → (∀ s ∈ st', 0 < s.2 ∧ s.2 ≤ 9) → Tl p q l 100 S0 S' ((st'.map stP).map DI) → ∀ a b, E.nx [some (.ref p), some (DI (0, 0)), some (.int 9), some (.int 3), some (.lst ((wayL 16).map DI)), some (.lst (pl.map I1)), z6, some (.ref l), a, z9, b, z11, z12, z13] S') :
    ∀ (ys : List Nat) (st : List (Nat × Int)) (S : Sto) (z8 z10 : Option D), st.map Prod.fst ++ ys = pl → (∀ d ∈ ys, d < 16) → pl.length ≤ 16 → (∀ s ∈ st, 0 < s.2 ∧ s.2 ≤ 9) → Tl p q l 100 S0 S ((st.map stP).map DI) →
    loopD (gVar 8) w__law_star_3 E Y (ys.map I1) [some (.ref p), some (DI (0, 0)), some (.int 9), some (.int 3), some (.lst ((wayL 16).map DI)), some (.lst (pl.map I1)), z6, some (.ref l), z8, z9, z10, z11, z12, z13] S
  | [], st, S, z8, z10, he, hy, hl, hs, T => h2 S st (by rw [← he, List.append_nil]) hs T _ _
  | d :: ys, st, S, z8, z10, he, hy, hl, hs, T => by
    have hd16 := hy d List.mem_cons_self
    have hlen : st.length < 16 := by
      have := congrArg List.length he
      simp only [List.length_append, List.length_map, List.length_cons] at this
      omega
    have ew : ((wayL 16).map DI)[d]? = some (DI (W d)) := by
      unfold wayL
      rw [List.getElem?_map, List.getElem?_map, List.getElem?_range hd16]; rfl
    rw [List.map_cons]
    simp only [xloop, PL.g8, w__law_star_3, xseq, w__law_star_2, xset, x2, xcall, xcons, xnil, v0, v2, xc]
    refine k_any T.deal (by decide) (by decide) fun r S1 r0 r1 hd1 f1 => ?_
    have T1 := T.step hd1 f1
    obtain ⟨w1, w2⟩ := w_small d
    have b4 : ∀ {z : Int}, z.natAbs ≤ 100 → Bd 20 z := fun h => bd_s (by omega) (by decide)
    simp only [oaddI, g10, w__law_star_1, xexpr, xapp, PL.v7, isl T1.at_l, true_and, xtup, xcons, xnil, x2, v1, v4, PL.v8, v10, xc, PL.iI0, iI1, I1]
    rw [lx ew]
    simp only [PL.iI0, omulI, oaddI]
    refine ⟨(b4 (show (1 + r).natAbs ≤ 100 by omega)).cmul (b4 (by omega)) (by decide), ?_⟩
    rw [lx ew]
    simp only [iI1, omulI, oaddI]
    refine ⟨(b4 (show (1 + r).natAbs ≤ 100 by omega)).cmul (b4 (by omega)) (by decide), two_line, ?_⟩
    rw [app_at T1.at_l]
    refine ⟨?_, ?_⟩
    · rw [List.length_map, List.length_map]; exact Nat.lt_of_lt_of_le (show st.length < 1000 by omega) (le_line (Nat.le_refl _))
    · have e : (st.map stP).map DI ++ [.tup [.int (0 + (1 + r) * (W d).1), .int (0 + (1 + r) * (W d).2)]] = ((st ++ [(d, 1 + r)]).map stP).map DI := by
        simp [DI, stP]
      rw [e]
      have hs2 : ∀ s ∈ st ++ [(d, 1 + r)], 0 < s.2 ∧ s.2 ≤ 9 := fun s h => by
        rcases List.mem_append.mp h with z | z
        · exact hs s z
        · rw [List.mem_singleton.mp z]; constructor <;> dsimp only <;> omega
      refine star_fl h2 ys (st ++ [(d, 1 + r)]) _ _ _ (by rw [← he]; simp) (fun x hx => hy x (List.mem_cons_of_mem _ hx)) hl hs2 (T1.put ?_)
      refine near_all fun c hc => ?_
      obtain ⟨s, h, rfl⟩ := List.mem_map.mp hc
      exact stP_small (hs2 s h)
end
theorem does__law_star : Does c__law_star w__law_star N__law_star 4 := by
  rintro ds S P X ⟨p, q, rfl, hd, h⟩
  refine ⟨rfl, ?_⟩
  show w__law_star_18 _ _ [some (.ref p), some (DI (0, 0)), some (.int 9), some (.int 3), none, none, none, none, none, none, none, none, none, none] S
  simp only [w__law_star_18, xseq, w__law_star_17, xset, xlst, xtup, xcons, xnil, x1, xc, onegI]
  simp only [show ∀ a b : D, [a, b].length ≤ sizeLine from fun _ _ => le_line (by simp), true_and]
  refine ⟨le_line (by simp), ?_⟩
  show gVar 4 (.lst ((wayL 8).map DI)) _ _ _ _
  simp only [g4, w__law_star_16, xseq, w__law_star_15, xset, x2, v4]
  refine lc_go (S1 := S) (ds := (wayL 8).map DI) (ptD fun c => DI (0 - c.1, 0 - c.2)) (fun R hR => ?_) (le_line (by simp [wayL])) (fun a ha y hy acc R hR => ?_) ?_
  · simp only [xitems, v4]
    exact hR
  · obtain ⟨c, hc, rfl⟩ := mem_di hy
    simp only [wip14_12]
    show gTupD 2 (gConsD (gVar 12) (gConsD (gVar 13) gNilD)) (.tup [.int c.1, .int c.2]) _ _ _ _
    rw [g2p]
    simp only [List.set_cons_succ, List.set_cons_zero, tYesD, if_true, xtup, xcons, xnil, x2, v12, v13, xc, osubI]
    exact ⟨two_line, hR⟩
  · rw [fm_di (fun c => (0 - c.1, 0 - c.2)), add_lst, way8]
    refine ⟨le_line (by simp [wayL]), ?_⟩
    simp only [g4, w__law_star_14, xseq, w__law_star_13, xset, xlst, xnil]
    refine ⟨le_line (by simp), ?_⟩
    simp only [PL.g5, w__law_star_12, xseq, w__law_star_11, xfor, xrngA, xcons, xnil, xc]
    refine ⟨by decide, ?_⟩
    refine star_ql (S0 := S) ?_ 4 0 [] S _ _ _ _ _ _ _ _ rfl ⟨List.Pairwise.nil, (fun _ z => by cases z), (fun _ z => absurd z (Nat.not_lt_zero _)), Nat.le_refl _⟩ hd (Fr.refl S)
    intro S1 pl Q hd1 f1 z6 z7 z8 z9 z10 z11 z12 z13
    simp only [w__law_star_7, xseq, w__law_star_6, xset, xnew, xnil]
    refine ⟨le_line (by simp), fun l hl => ?_⟩
    simp only [PL.g7, w__law_star_5, xseq, w__law_star_4, xfor, xitems, PL.v5]
    have T0 : Tl p q l 100 S (sput S1 l (.lst [])) ((([] : List (Nat × Int)).map stP).map DI) := ⟨hd1.put (hd1.neP hl) (hd1.neQ hl), fun x a b c => by rw [sput_off c]; exact f1 x a b, fr_none hd1 f1 hl, hd1.neP hl, hd1.neQ hl, sput_at, fun y hy => by cases hy⟩
    show loopD _ _ _ _ (pl.map I1) _ _
    refine star_fl (S0 := S) (pl := pl) ?_ pl [] _ _ _ rfl Q.lt Q.len (fun _ z => by cases z) T0
    intro S2 st hst hs T a b
    simp only [w__law_star_0, xret, xn, xcons, xnil, PL.v7]
    rw [tup_ref T.at_l]
    obtain ⟨g1, g2⟩ := T.gone
    have SA : Simple (st.map stP) ∧ 0 < arA (st.map stP) := by
      have mem : ∀ {d : Nat}, d ∈ pl → ∃ s ∈ st, s.1 = d := fun hd => by
        rw [← hst] at hd
        obtain ⟨s, h1, h2⟩ := List.mem_map.mp hd
        exact ⟨s, h1, h2⟩
      refine star_simple st ?_ (fun s hs' => ?_) (fun s hs' => (hs s hs').1) fun q hq => ?_
      · have := Q.up
        rw [← hst, List.pairwise_map] at this
        exact this
      · refine Q.lt s.1 ?_
        rw [← hst]; exact List.mem_map_of_mem hs'
      · obtain ⟨d, hd, b1, b2⟩ := Q.hit q hq
        obtain ⟨s, h1, rfl⟩ := mem hd
        exact ⟨s, h1, b1, b2⟩
    refine ⟨sdel S2 l, sdel_sub _ _, h _ _ ⟨SA.1, SA.2, ?_, near_of T.near⟩ g1 g2⟩
    have := congrArg List.length hst
    rw [List.length_map] at this
    rw [List.length_map, this]
    exact Q.len
/-! walks: a drawn ring, a bent one -/
theorem k_star {p q : Addr} {S : Sto} {P : PD} {X : PX} (hd : Deal S p q) (k : ∀ cs S', Rg 16 100 cs → Deal S' p q → Fr p q S S' → P (RG cs) S') : c__law_star [.ref p, DI (0, 0), .int 9, .int 3] S P X := ⟨p, q, rfl, hd, k⟩
theorem k_wave {p q : Addr} {m : Int} {S : Sto} {P : PD} {X : PX} (hd : Deal S p q) (h0 : 2 ≤ m) (h1 : m ≤ 4) (k : ∀ cs S', Rg 16 100 cs → Deal S' p q → Fr p q S S' → P (RG cs) S') : c__law_wave [.ref p, .int m] S P X := ⟨p, q, m, rfl, hd, h0, h1, k⟩
theorem k_map {p q : Addr} {S : Sto} {P : PD} {X : PX} (hd : Deal S p q) (k : ∀ a b c d e f S', Rl a b c d e f → Deal S' p q → Fr p q S S' → P (rlD a b c d e f) S') : c__law_map [.ref p] S P X := ⟨p, q, rfl, hd, k⟩
theorem does__law_ring : Does c__law_ring w__law_ring N__law_ring 1 := by
  rintro ds S P X ⟨p, q, rfl, hd, h⟩
  refine ⟨rfl, ?_⟩
  show w__law_ring_2 _ _ [some (.ref p), none] S
  have fin : ∀ cs S1, Rg 16 100 cs → Deal S1 p q → Fr p q S S1 → w__law_ring_0 { nx := fun _ S' => shrP P .non S', rt := shrP P } (fun x _ S' => shrX X x S') [some (.ref p), some (RG cs)] S1 := fun cs S1 hcs hd1 f1 => by
    simp only [w__law_ring_0, xret, xcall, xcons, xnil, v0, v1]
    refine k_map hd1 fun a b c d e f S2 hr hd2 f2 => ?_
    refine k_put hcs hr ?_
    refine k_more hd2 (rg_put hr hcs) fun cs2 S3 h3 hd3 f3 => ?_
    exact ⟨S3, Sub.refl _, h cs2 S3 h3 hd3 ((f1.trans f2).trans f3)⟩
  simp only [w__law_ring_2, xseq, w__law_ring_1, xset, xif, xbl, x2, xcall, xcons, xnil, v0, xc]
  refine k_any hd (by decide) (by decide) fun r S1 r0 r1 hd1 f1 => ?_
  simp only [oeqI]
  by_cases hr : r = 0
  · simp only [decide_eq_true hr, if_true, xcall, xtup, xcons, xnil, v0, xc]
    refine ⟨two_line, ?_⟩
    refine k_star hd1 fun cs S2 hcs hd2 f2 => ?_
    exact fin cs S2 hcs hd2 (f1.trans f2)
  · simp only [decide_eq_false hr, Bool.false_eq_true, if_false, xcall, x2, xcons, xnil, v0, xc]
    refine k_any hd1 (by decide) (by decide) fun r S2 r0 r1 hd2 f2 => ?_
    simp only [oaddI]
    refine k_wave hd2 (by omega) (by omega) fun cs S3 hcs hd3 f3 => ?_
    exact fin cs S3 hcs hd3 ((f1.trans f2).trans f3)
/-! values with nothing that may change -/
def TV (xs : List D) : Prop := norefL xs = true ∧ xs.length ≤ 100
theorem val_tup {xs : List D} (h : TV xs) : Val (.tup xs) := ⟨h.1, fun ys e => by injection e with e; rw [← e]; exact Nat.le_trans h.2 (by decide)⟩
theorem val_of {d : D} (h : noref d = true) (hn : ∀ xs, d ≠ .tup xs) : Val d := ⟨h, fun xs e => absurd e (hn xs)⟩
theorem nrl_app : ∀ {as bs : List D}, norefL as = true → norefL bs = true → norefL (as ++ bs) = true
  | [], bs, _, h => h
  | a :: as, bs, h1, h2 => by
    simp only [List.cons_append, norefL, Bool.and_eq_true] at h1 ⊢
    exact ⟨h1.1, nrl_app h1.2 h2⟩
theorem nrl_take : ∀ {as : List D} (k : Nat), norefL as = true → norefL (as.take k) = true
  | _, 0, _ => rfl
  | [], k + 1, _ => rfl
  | a :: as, k + 1, h => by
    simp only [List.take_succ_cons, norefL, Bool.and_eq_true] at h ⊢
    exact ⟨h.1, nrl_take k h.2⟩
theorem nrl_drop : ∀ {as : List D} (k : Nat), norefL as = true → norefL (as.drop k) = true
  | _, 0, h => h
  | [], k + 1, _ => rfl
  | a :: as, k + 1, h => by
    simp only [norefL, Bool.and_eq_true] at h
    exact nrl_drop k h.2
theorem nrl_one {d : D} (h : noref d = true) : norefL [d] = true := by simp [norefL, h]
theorem tv_ring {cs : List PT} (h : Rg 32 500 cs) : norefL (cs.map DI) = true ∧ (cs.map DI).length ≤ 32 := ⟨nrl_di cs, by rw [List.length_map]; exact h.len⟩
theorem osl_from1 {ds : List D} {k : Nat} {S : Sto} {P : PD} : oSlice (.tup ds) (some ((k : Int) + 1)) none S P = P (.tup (ds.drop (k + 1))) S := osl_from (k := k + 1)
theorem osl_from0 {ds : List D} {k : Nat} {S : Sto} {P : PD} : oSlice (.tup ds) (some (k : Int)) none S P = P (.tup (ds.drop k)) S := osl_from
theorem osl_lt {ds : List D} {k : Int} {S : Sto} {P : PD} : oSlice (.lst ds) none (some k) S P = P (.lst (cutD ds none (some k))) S := id rfl
theorem mem_cut {ds : List D} {a b : Option Int} {d : D} (h : d ∈ cutD ds a b) : d ∈ ds := by
  unfold cutD at h
  exact List.mem_of_mem_drop (List.mem_of_mem_take h)
theorem len_cut (ds : List D) (a b : Option Int) : (cutD ds a b).length ≤ ds.length := by
  unfold cutD
  rw [List.length_take, List.length_drop]
  omega
theorem lst_self {ds : List D} {S : Sto} {P : PD} : oListM false [.tup ds] S P = P (.lst ds) S := id rfl
theorem le_l {n : Nat} (h : n ≤ 1000) : n ≤ sizeLine := le_line h
/-! walks: areas and rings made of rings -/
theorem xback0 {u : WE} {r : PL.Env} {S : Sto} {P : PD} {X : PX} : wBack0 u r S P X = u r S (fun x S' => match x with
  | .tup (_ :: ds) => P (.tup ds.reverse) S'
  | _ => False) X := id rfl
theorem xindex {u v : WE} {r : PL.Env} {S : Sto} {P : PD} {X : PX} : wIndex u v r S P X = u r S (fun x S1 => (∃ ds, lstOf S1 x = some ds) ∧ v r S1 (fun y S2 => oIndex x y S2 P) X) X := id rfl
def sideA (d : D) : Option D := match d with
  | .tup [.tup [.int a, .int b], .tup [.int c, .int d]] => some (.int (a * d - b * c))
  | _ => none
theorem fm_sideA (ss : List (PT × PT)) : (ss.map fun s => D.tup [DI s.1, DI s.2]).filterMap sideA = (ss.map fun s => crz s.1 s.2).map D.int := by
  induction ss with
  | nil => rfl
  | cons s ss ih =>
    rw [List.map_cons, List.filterMap_cons, ih]
    rfl
theorem arA_sd (cs : List PT) : ((sdL cs).map fun s => crz s.1 s.2).sum = arA cs := by
  unfold sdL
  rw [List.map_map]
  rfl
theorem len_sd (cs : List PT) : ((sdL cs).map fun s => D.tup [DI s.1, DI s.2]).length = cs.length := by
  unfold sdL
  rw [List.length_map, List.length_map, List.length_range]
theorem b3_cix {cs : List PT} (h : B3 cs) (hn : 0 < cs.length) (k : Int) : (cix cs k).1.natAbs ≤ 1000 ∧ (cix cs k).2.natAbs ≤ 1000 := near_cix hn h k
theorem does_ring_area : Does c_ring_area w_ring_area N_ring_area 1 := by
  rintro ds S P X ⟨cs, rfl, hne, hl, hb, h⟩
  refine ⟨rfl, ?_⟩
  have hn : 0 < cs.length := List.length_pos_iff.mpr hne
  show w_ring_area _ _ [some (RG cs), none, none] S
  simp only [w_ring_area, xret, xn, xcons, xnil]
  refine lc_go (S1 := S) (ds := (sdL cs).map fun s => D.tup [DI s.1, DI s.2]) sideA (fun Q hq => ?_) (le_line (by rw [len_sd]; omega)) (fun p hp d hd acc R hR => ?_) ?_
  · simp only [xitems, xcall, xcons, xnil, v0]
    exact k_sides hne hl hq
  · obtain ⟨s, hs, rfl⟩ := List.mem_map.mp hd
    unfold sdL at hs
    obtain ⟨i, _, rfl⟩ := List.mem_map.mp hs
    obtain ⟨a1, a2⟩ := b3_cix hb hn (i : Int)
    obtain ⟨b1, b2⟩ := b3_cix hb hn ((i : Int) + 1)
    have bb : ∀ {z : Int}, z.natAbs ≤ 1000 → Bd 20 z := fun h => bd_s (by omega) (by decide)
    show gTupD 2 (gConsD (gVar 1) (gConsD (gVar 2) gNilD)) (.tup [DI _, DI _]) _ _ _ _
    rw [g2p]
    simp only [List.set_cons_succ, List.set_cons_zero, tYesD, if_true, x2, v1, v2, xc, PL.iI0, iI1, omulI, osubI]
    exact ⟨(bb a1).cmul (bb b2) (by decide), (bb a2).cmul (bb b1) (by decide), hR⟩
  · rw [fm_sideA]
    refine ⟨_, rfl, ?_⟩
    rw [arA_sd]
    exact ⟨S, Sub.refl _, h⟩
theorem k_area {cs : List PT} {S : Sto} {P : PD} {X : PX} (hne : cs ≠ []) (hl : cs.length ≤ 200) (hb : B3 cs) (k : P (.int (arA cs)) S) : c_ring_area [RG cs] S P X := ⟨cs, rfl, hne, hl, hb, k⟩
theorem does_turned_ring : Does c_turned_ring w_turned_ring N_turned_ring 1 := by
  rintro ds S P X ⟨c, cs, rfl, hl, h⟩
  refine ⟨rfl, ?_⟩
  show w_turned_ring _ _ [some (.tup (DI c :: cs.map DI))] S
  have o1 : ∀ (S : Sto) (P : PD), oSlice (.tup (DI c :: cs.map DI)) none (some 1) S P = P (.tup [DI c]) S := fun S P => osl_to (k := 1)
  simp only [w_turned_ring, xret, x2, slT, xback0, v0, xc, o1]
  rw [add_tup]
  refine ⟨le_line (by rw [List.length_reverse, List.length_map, List.length_singleton]; omega), S, Sub.refl _, ?_⟩
  rw [← List.map_reverse]
  exact h
theorem k_turned {c : PT} {cs : List PT} {S : Sto} {P : PD} {X : PX} (hl : cs.length ≤ 200) (k : P (RG (c :: cs.reverse)) S) : c_turned_ring [RG (c :: cs)] S P X := ⟨c, cs, rfl, hl, k⟩
theorem does_begun : Does c_begun w_begun N_begun 2 := by
  rintro ds S P X ⟨cs, k, rfl, hl, h⟩
  refine ⟨rfl, ?_⟩
  show w_begun _ _ [some (.tup (cs.map DI)), some (.int (k : Int))] S
  simp only [w_begun, xret, x2, slT, slF, v0, v1, osl_to, osl_from]
  rw [add_tup]
  refine ⟨le_line (by rw [List.length_drop, List.length_take, List.length_map]; omega), S, Sub.refl _, ?_⟩
  rw [← List.map_drop, ← List.map_take, ← List.map_append]
  exact h
theorem k_begun {cs : List PT} {k : Nat} {S : Sto} {P : PD} {X : PX} (hl : cs.length ≤ 200) (h : P (RG (cs.drop k ++ cs.take k)) S) : c_begun [RG cs, .int (k : Int)] S P X := ⟨cs, k, rfl, hl, h⟩
theorem ok_lst (cs : List PT) : okD (.lst (cs.map DI)) = true := by
  have h3 := dep_di cs
  have h1 : noref (.lst (cs.map DI)) = true := nrl_di cs
  unfold okD SeqAt.shaped
  rw [h1]
  simp only [toP, PyData.canLay0, lay_di, PyData.depth, Bool.true_and, decide_eq_true_eq]
  omega
theorem toPL_at (fs : List PT) (k : Nat) : (toPL (fs.map DI))[k]? = (fs[k]?).map fun c => toP (DI c) := by
  induction fs generalizing k with
  | nil => rfl
  | cons c cs ih =>
    have e : toPL ((c :: cs).map DI) = toP (DI c) :: toPL (cs.map DI) := by simp [toPL]
    rw [e]
    cases k with
    | zero => rfl
    | succ k => rw [List.getElem?_cons_succ, List.getElem?_cons_succ, ih]
theorem idx_min {l : Addr} {fs : List PT} {S : Sto} {P : PD} (hf : fs ≠ []) (hl : S l = some (.lst (fs.map DI))) (h : ∀ xs ys, fs = xs ++ minP fs :: ys → canon fs = minP fs :: ys ++ xs → P (.int (xs.length : Nat)) S) : oMin [.ref l] S (fun y S2 => oIndex (.ref l) y S2 P) := by
  have el : lstOf S (.ref l) = some (fs.map DI) := by unfold lstOf; simp only [hl]
  have er : res S (.ref l) = .lst (fs.map DI) := lst_res el
  obtain ⟨xs, ys, e, hx, ec⟩ := canon_split hf
  have hlen : xs.length < fs.length := by rw [e, List.length_append, List.length_cons]; omega
  have key : oIndex (.ref l) (DI (minP fs)) S P := by
    refine ⟨fs.map DI, xs.length, toP (DI (minP fs)), el, by rw [er]; exact ok_lst fs, ok_di _, ?_, ?_, fun m z' hm hz => ?_, h xs ys e ec⟩
    · rw [toPL_at]
      have : fs[xs.length]? = some (minP fs) := by
        generalize minP fs = m at *
        rw [e, List.getElem?_append_right (Nat.le_refl _), Nat.sub_self]; rfl
      rw [this]; rfl
    · show PyData.eqv (toP (DI (minP fs))) (toP (DI (minP fs))) = true
      rw [eqv_DI]; exact decide_eq_true rfl
    · rw [toPL_at] at hz
      have em : fs[m]? = xs[m]? := by
        generalize minP fs = m at *
        rw [e, List.getElem?_append_left hm]
      rw [em, List.getElem?_eq_getElem hm] at hz
      cases hz
      show PyData.eqv (toP (DI xs[m])) (toP (DI (minP fs))) = false
      rw [eqv_DI]
      exact decide_eq_false fun w => hx (w ▸ List.getElem_mem hm)
  cases fs with
  | nil => exact (hf rfl).elim
  | cons c cs => exact .inr ⟨c, cs, el, key⟩
theorem FI_succ (cs : List PT) (i : Nat) : FI cs 0 (i + 1) = FI cs 0 i ++ (if bd cs (i : Int) = true then [cix cs (i : Int)] else []) := by
  rw [FI_app]
  congr 1
  unfold FI
  rw [List.range_one, List.filter_cons]
  have e : (0 : Int) + (i : Int) + ((0 : Nat) : Int) = i := by omega
  rw [e]
  by_cases h : bd cs (i : Int) = true
  · rw [if_pos h, if_pos h]
    show [cix cs ((0 : Int) + (i : Int) + ((0 : Nat) : Int))] = _
    rw [e]
  · rw [if_neg h, if_neg h]
    rfl
theorem FI_len (cs : List PT) (i : Nat) : (FI cs 0 i).length ≤ i := by
  unfold FI
  rw [List.length_map]
  have := List.length_filter_le (fun (k : Nat) => bd cs (0 + (k : Int))) (List.range i)
  rwa [List.length_range] at this
theorem drop_cix {cs : List PT} {i : Nat} (hi : i < cs.length) : cs.drop i = cix cs (i : Int) :: cs.drop (i + 1) := by
  rw [cix_nat hi]; exact List.drop_eq_getElem_cons hi
theorem cix_emod (cs : List PT) (k : Int) : cix cs (k % (cs.length : Int)) = cix cs k := by unfold cix; rw [Int.emod_emod]
section
variable {E : EndD} {Y : XS} {S : Sto} {l : Addr} {cs : List PT}
theorem st_loop (hb : B3 cs) (hl : cs.length ≤ 200) (h2 : ∀ a b, E.nx [some (RG cs), some (.ref l), a, b] (sput S l (.lst ((FB cs).map DI)))) : ∀ (k i : Nat) (z2 z3 : Option D), i + k = cs.length →
    loopD (gTupD 2 (gConsD (gVar 2) (gConsD (gVar 3) gNilD))) w_straightened_2 E Y (enF i ((cs.drop i).map DI)) [some (RG cs), some (.ref l), z2, z3] (sput S l (.lst ((FI cs 0 i).map DI)))
  | 0, i, z2, z3, hk => by
    have : i = cs.length := by omega
    subst this
    rw [List.drop_length]
    exact h2 z2 z3
  | k + 1, i, z2, z3, hk => by
    have hi : i < cs.length := by omega
    have hn : (0 : Int) < cs.length := by omega
    have m0 := Int.emod_nonneg ((i : Int) + 1) (show (cs.length : Int) ≠ 0 by omega)
    have m1 := Int.emod_lt_of_pos ((i : Int) + 1) hn
    have bb := fun k => bp (b3_cix hb (show 0 < cs.length by omega) k) (by decide)
    have next := st_loop hb hl h2 k (i + 1) (some (.int (i : Int))) (some (DI (cix cs (i : Int)))) (by omega)
    rw [drop_cix hi, List.map_cons, enF_cons]
    simp only [xloop]
    show gTupD 2 (gConsD (gVar 2) (gConsD (gVar 3) gNilD)) (.tup [.int (i : Nat), DI (cix cs (i : Int))]) _ _ _ _
    rw [g2p]
    simp only [List.set_cons_succ, List.set_cons_zero, w_straightened_2, xsif, xbl, x2, xcall, xcons, xnil, xn, v0, v2, v3, xc, osubI, oaddI, len_rg, omodI]
    rw [ix_rg (by omega) (by omega)]
    refine ⟨hn, ?_⟩
    rw [ix_rg (by omega) (by omega), cix_emod]
    refine k_war ((bb _).mono (by decide)) ((bb _).mono (by decide)) ((bb _).mono (by decide)) ?_
    simp only [oneI]
    have eb : bd cs (i : Int) = !decide (war (cix cs ((i : Int) - 1)) (cix cs (i : Int)) (cix cs ((i : Int) + 1)) = 0) := by
      unfold bd; simp
    rw [← eb]
    rw [FI_succ] at next
    have fl := FI_len cs i
    by_cases h : bd cs (i : Int) = true
    · rw [if_pos h] at next
      simp only [h, if_true, w_straightened_1, xexpr, xapp, v1, v3, isl sput_at, true_and, app_at sput_at, sput_sput]
      refine ⟨by rw [List.length_map]; exact Nat.lt_of_lt_of_le (show (FI cs 0 i).length < 1000 by omega) (le_line (Nat.le_refl _)), ?_⟩
      rw [List.map_append] at next
      exact next
    · rw [if_neg h, List.append_nil] at next
      have h : bd cs (i : Int) = false := by simpa using h
      simp only [h, Bool.false_eq_true, if_false, xskip]
      exact next
theorem ls_loop (hb : B3 cs) (hl : cs.length ≤ 200) (h2 : ∀ a b c d, E.nx [some (RG cs), some (.ref l), a, b, c, d] (sput S l (.lst ((FB cs).map DI)))) : ∀ (k i : Nat) (z2 z3 z4 z5 : Option D), i + k = cs.length →
    loopD (gVar 2) w__law_straight_6 E Y (intsD (i : Int) k) [some (RG cs), some (.ref l), z2, z3, z4, z5] (sput S l (.lst ((FI cs 0 i).map DI)))
  | 0, i, z2, z3, z4, z5, hk => by
    have : i = cs.length := by omega
    subst this
    exact h2 z2 z3 z4 z5
  | k + 1, i, z2, z3, z4, z5, hk => by
    have hi : i < cs.length := by omega
    have hn : (0 : Int) < cs.length := by omega
    have m0 := Int.emod_nonneg ((i : Int) + 1) (show (cs.length : Int) ≠ 0 by omega)
    have m1 := Int.emod_lt_of_pos ((i : Int) + 1) hn
    have bb := fun k => bp (b3_cix hb (show 0 < cs.length by omega) k) (show 1000 ≤ 16000 by decide)
    have next := ls_loop hb hl h2 k (i + 1) (some (.int (i : Int))) (some (DI (cix cs ((i : Int) - 1)))) (some (DI (cix cs (i : Int)))) (some (DI (cix cs ((i : Int) + 1)))) (by omega)
    rw [ints_cons]
    simp only [xloop, g2, w__law_straight_6, xseq, w__law_straight_5, xpar3, xcons, xnil, x2, xn, v0, v2, xc, osubI, oaddI, ointI, len_rg, omodI]
    rw [ix_rg (by omega) (by omega), ix_rg (by omega) (by omega)]
    refine ⟨hn, ?_⟩
    rw [ix_rg (by omega) (by omega), cix_emod]
    simp only [List.set_cons_succ, List.set_cons_zero, w__law_straight_4, xsif, xbl, x2, v3, v4, PL.v5, xc, PL.iI0, iI1, osubI, omulI, oneI]
    have ba := bb ((i : Int) - 1)
    have b0 := bb (i : Int)
    have bc := bb ((i : Int) + 1)
    refine ⟨(dif1 b0 ba).1.cmul (dif1 bc b0).2 (by decide), (dif1 b0 ba).2.cmul (dif1 bc b0).1 (by decide), ?_⟩
    have eb : bd cs (i : Int) = !decide (((cix cs (i : Int)).1 - (cix cs ((i : Int) - 1)).1) * ((cix cs ((i : Int) + 1)).2 - (cix cs (i : Int)).2) = ((cix cs (i : Int)).2 - (cix cs ((i : Int) - 1)).2) * ((cix cs ((i : Int) + 1)).1 - (cix cs (i : Int)).1)) := by
      unfold bd
      rw [war_lcB]
      unfold lcB
      rw [Bool.eq_iff_iff, decide_eq_true_eq, Bool.not_eq_true', decide_eq_false_iff_not]
      omega
    rw [← eb]
    rw [FI_succ] at next
    rw [show (i : Int) + 1 = ((i + 1 : Nat) : Int) by omega] at next ⊢
    have fl := FI_len cs i
    by_cases h : bd cs (i : Int) = true
    · rw [if_pos h] at next
      simp only [h, if_true, w__law_straight_3, xexpr, xapp, v1, v4, isl sput_at, true_and, app_at sput_at, sput_sput]
      refine ⟨by rw [List.length_map]; exact Nat.lt_of_lt_of_le (show (FI cs 0 i).length < 1000 by omega) (le_line (Nat.le_refl _)), ?_⟩
      rw [List.map_append] at next
      exact next
    · rw [if_neg h, List.append_nil] at next
      have h : bd cs (i : Int) = false := by simpa using h
      simp only [h, Bool.false_eq_true, if_false, xskip]
      exact next
end
theorem sdel_put' {S : Sto} {l : Addr} {o : DO} (h : S l = none) : sdel (sput S l o) l = S := by
  funext x
  unfold sdel
  by_cases e : x = l
  · rw [if_pos e, e, h]
  · rw [if_neg e, sput_off e]
theorem sub_put {S : Sto} {l : Addr} {o : DO} (h : S l = none) : Sub S (sput S l o) := by
  have := sdel_sub (sput S l o) l
  rwa [sdel_put' h] at this
theorem does_straightened : Does c_straightened w_straightened N_straightened 1 := by
  rintro ds S P X ⟨cs, rfl, h3, hl, hb, hf, h⟩
  refine ⟨rfl, ?_⟩
  show w_straightened_6 _ _ [some (RG cs), none, none, none] S
  simp only [w_straightened_6, xseq, w_straightened_5, xset, xnew, xnil]
  refine ⟨le_line (by simp), fun l nl => ?_⟩
  simp only [g1, w_straightened_4, xseq, w_straightened_3, xfor, xenum, xcons, xnil, v0]
  show loopD _ _ _ _ (enumD (cs.map DI)) _ _
  rw [enF_0]
  refine st_loop (S := S) (l := l) hb hl ?_ cs.length 0 none none (by omega)
  intro a b
  have fl := FB_len cs
  simp only [w_straightened_0, xret, xcall, xn, xcons, xnil, xindex, v1, tup_ref sput_at]
  refine ⟨⟨(FB cs).map DI, by unfold lstOf; simp only [sput_at]⟩, ?_⟩
  refine idx_min hf sput_at fun xs ys e ec => ?_
  refine k_begun (cs := FB cs) (by omega) ?_
  have e2 : (FB cs).drop xs.length ++ (FB cs).take xs.length = canon (FB cs) := by
    rw [ec]
    generalize minP (FB cs) = m at *
    rw [e, List.drop_left, List.take_left]
  rw [e2]
  exact ⟨S, sub_put nl, h⟩
theorem does__law_straight : Does c__law_straight w__law_straight N__law_straight 1 := by
  rintro ds S P X ⟨cs, rfl, h3, hl, hb, hf, h⟩
  refine ⟨rfl, ?_⟩
  show w__law_straight_10 _ _ [some (RG cs), none, none, none, none, none] S
  simp only [w__law_straight_10, xseq, w__law_straight_9, xset, xnew, xnil]
  refine ⟨le_line (by simp), fun l nl => ?_⟩
  simp only [g1, w__law_straight_8, xseq, w__law_straight_7, xfor, xrngA, xcons, xnil, xn, v0, len_rg]
  refine ⟨by omega, ?_⟩
  rw [Int.toNat_natCast]
  refine ls_loop (S := S) (l := l) hb hl ?_ cs.length 0 none none none none (by omega)
  intro a b c d
  have fl := FB_len cs
  simp only [w__law_straight_2, xseq, w__law_straight_1, xset, xindex, xn, xcons, xnil, v1]
  refine ⟨⟨(FB cs).map DI, by unfold lstOf; simp only [sput_at]⟩, ?_⟩
  refine idx_min hf sput_at fun xs ys e ec => ?_
  simp only [g2, w__law_straight_0, xret, xn, xcons, xnil, x2, slF, slT, v1, v2, osl_ref_to sput_at, osl_ref_from sput_at]
  rw [add_lst]
  refine ⟨le_line (by rw [List.length_drop, List.length_take, List.length_map]; omega), ?_⟩
  rw [tup_lst, ← List.map_drop, ← List.map_take, ← List.map_append]
  have e2 : (FB cs).drop xs.length ++ (FB cs).take xs.length = canon (FB cs) := by
    rw [ec]
    generalize minP (FB cs) = m at *
    rw [e, List.drop_left, List.take_left]
  rw [e2]
  exact ⟨S, sub_put nl, h⟩
theorem does__law_area : Does c__law_area w__law_area N__law_area 2 := by
  rintro ds S P X ⟨cs, s, rfl, hne, hl, hb, s1, s2, h⟩
  refine ⟨rfl, ?_⟩
  have hn : 0 < cs.length := List.length_pos_iff.mpr hne
  show w__law_area_7 _ _ [some (RG cs), some (DI s), none, none, none, none] S
  simp only [w__law_area_7, xseq, w__law_area_6, xset, xc, g2, w__law_area_5, w__law_area_4, xfor, xrngA, xcons, xnil, xn, v0, len_rg]
  refine ⟨by omega, ?_⟩
  rw [Int.toNat_natCast]
  have loop : ∀ (E : EndD) (Y : XS), (∀ a b c, E.nx [some (RG cs), some (DI s), some (.int (arA cs)), a, b, c] S) → ∀ (k i : Nat) (z3 z4 z5 : Option D), i + k = cs.length →
      loopD (gVar 3) w__law_area_3 E Y (intsD (i : Int) k) [some (RG cs), some (DI s), some (.int (sm (fun k => crz ((cix cs (k - 1)).1 - s.1, (cix cs (k - 1)).2 - s.2) ((cix cs k).1 - s.1, (cix cs k).2 - s.2)) i)), z3, z4, z5] S := by
    intro E Y h2 k
    induction k with
    | zero =>
      intro i z3 z4 z5 hk
      have : i = cs.length := by omega
      subst this
      rw [arA_spot]
      exact h2 z3 z4 z5
    | succ k ih =>
      intro i z3 z4 z5 hk
      have next := ih (i + 1) (some (.int (i : Int))) (some (DI (cix cs ((i : Int) - 1)))) (some (DI (cix cs (i : Int)))) (by omega)
      rw [sm_succ] at next
      obtain ⟨a1, a2⟩ := b3_cix hb hn ((i : Int) - 1)
      obtain ⟨b1, b2⟩ := b3_cix hb hn (i : Int)
      have bb : ∀ {z : Int}, z.natAbs ≤ 2000 → Bd 20 z := fun h => bd_s (by omega) (by decide)
      rw [ints_cons]
      simp only [xloop, g3, w__law_area_3, xseq, w__law_area_2, xpar2, xcons, xnil, x2, v0, v3, xc, osubI]
      rw [ix_rg (by omega) (by omega), ix_rg (by omega) (by omega)]
      simp only [List.set_cons_succ, List.set_cons_zero, w__law_area_1, xset, x2, v1, v2, v4, PL.v5, xc, PL.iI0, iI1, osubI, oaddI, omulI]
      refine ⟨(bb (by omega)).cmul (bb (by omega)) (by decide), (bb (by omega)).cmul (bb (by omega)) (by decide), ?_⟩
      simp only [g2]
      rw [show (i : Int) + 1 = ((i + 1 : Nat) : Int) by omega]
      unfold crz at next ⊢
      rw [← Int.add_sub_assoc] at next
      exact next
  refine loop _ _ (fun a b c => ?_) cs.length 0 none none none (by omega)
  simp only [w__law_area_0, xret, v2]
  exact ⟨S, Sub.refl _, h⟩
/-! the law -/
theorem k_ring {p q : Addr} {S : Sto} {P : PD} {X : PX} (hd : Deal S p q) (k : ∀ cs S', Rg 32 500 cs → Deal S' p q → Fr p q S S' → P (RG cs) S') : c__law_ring [.ref p] S P X := ⟨p, q, rfl, hd, k⟩
theorem sm_abs {f : Int → Int} {B : Nat} : ∀ {n : Nat}, (∀ k : Nat, k < n → (f (k : Int)).natAbs ≤ B) → (sm f n).natAbs ≤ n * B
  | 0, _ => by rw [sm_zero]; simp
  | n + 1, h => by
    rw [sm_succ, Nat.succ_mul]
    have a := sm_abs (f := f) (n := n) fun k hk => h k (by omega)
    have b := h n (by omega)
    omega
theorem arA_bd {cs : List PT} (hb : B3 cs) (hl : cs.length ≤ 200) : Bd 40 (arA cs) := by
  by_cases hn : 0 < cs.length
  · have k := sm_abs (f := fun k => crz (cix cs k) (cix cs (k + 1))) (B := 2000000) (n := cs.length) fun k _ => by
      obtain ⟨a1, a2⟩ := b3_cix hb hn (k : Int)
      obtain ⟨b1, b2⟩ := b3_cix hb hn ((k : Int) + 1)
      have p1 := Nat.mul_le_mul a1 b2
      have p2 := Nat.mul_le_mul a2 b1
      rw [← Int.natAbs_mul] at p1 p2
      unfold crz
      omega
    have m := Nat.mul_le_mul_right 2000000 hl
    have e : (2 : Nat) ^ 40 = 1099511627776 := by decide
    have k2 : (arA cs).natAbs ≤ cs.length * 2000000 := k
    unfold Bd
    omega
  · have : cs = [] := List.eq_nil_of_length_eq_zero (by omega)
    subst this
    show Bd 40 0
    unfold Bd; decide
theorem shw_rg {cs : List PT} (hb : B3 cs) (hl : cs.length ≤ 200) : Shw (RG cs) := by
  have hs : ∀ d ∈ cs.map DI, PL.Sh 1 60 d := fun d hd => by
    obtain ⟨c, hc, rfl⟩ := mem_di hd
    exact (PL.ShL.tup (PL.ShL.cons (PL.Sh.int (k := 0) (bd_s (by have := hb c hc; omega) (Nat.le_refl 20)) (by decide)) (PL.ShL.cons (PL.Sh.int (k := 0) (bd_s (by have := hb c hc; omega) (Nat.le_refl 20)) (by decide)) .nil))).mono (by decide) (by decide)
  refine (PL.ShL.tup (PL.ShL.all hs)).to (by decide) ?_
  have : (cs.map DI).length ≤ 200 := by rw [List.length_map]; exact hl
  have := Nat.mul_le_mul_right (60 + 2) this
  omega
/-- a ring as drawn, or turned round -/
structure Rn (cs : List PT) : Prop where
  simple : Simple cs
  len : cs.length ≤ 32
  b3 : B3 cs
theorem Rg.rn {cs : List PT} (h : Rg 32 500 cs) : Rn cs := ⟨h.simple, h.len, fun c hc => by have := h.bd c hc; constructor <;> omega⟩
theorem Rn.rot {xs ys : List PT} (h : Rn (xs ++ ys)) : Rn (ys ++ xs) := ⟨simple_rot h.simple, by have := h.len; rw [List.length_append] at this ⊢; omega, fun c hc => h.b3 c (by rw [List.mem_append] at hc ⊢; exact hc.symm)⟩
theorem Rn.l3 {cs : List PT} (h : Rn cs) : 3 ≤ cs.length := h.simple.len
theorem Rn.l2 {cs : List PT} (h : Rn cs) : cs.length ≤ 200 := Nat.le_trans h.len (by decide)
theorem Rn.ne {cs : List PT} (h : Rn cs) : cs ≠ [] := fun z => by have := h.l3; rw [z] at this; simp at this
theorem Rn.shw {cs : List PT} (h : Rn cs) : Shw (RG cs) := shw_rg h.b3 h.l2
theorem Rn.good {cs : List PT} (h : Rn cs) : Good cs (FB cs) := FB_good _ cs rfl h.simple
theorem Rn.fne {cs : List PT} (h : Rn cs) : FB cs ≠ [] := fun z => by have := h.good.simple.len; rw [z] at this; simp at this
theorem Rn.plain {cs : List PT} (h : Rn cs) : Rn (canon (FB cs)) ∧ arA (canon (FB cs)) = arA cs ∧ FB (canon (FB cs)) = canon (FB cs) := by
  have g := h.good
  obtain ⟨xs, ys, e, ec⟩ := canon_form h.fne
  have hl := FB_len cs
  have hm : ∀ c ∈ FB cs, c ∈ cs := fun c hc => FB_mem (by have := h.l3; omega) hc
  rw [ec]
  have s := g.simple
  have ns := g.ns
  have ar := g.area
  rw [e] at s ns ar hm hl
  refine ⟨⟨simple_rot s, ?_, fun c hc => h.b3 c (hm c (by rw [List.mem_append] at hc ⊢; exact hc.symm))⟩, ?_, FB_NS (NS_rot ns)⟩
  · have := h.len
    rw [List.length_append] at hl ⊢
    omega
  · rw [← ar]; exact arG_rot crz xs ys
theorem Rn.again {cs : List PT} (h : Rn cs) : canon (FB (canon (FB cs))) = canon (FB cs) := by
  rw [h.plain.2.2]
  exact canon_canon h.fne (simple_nodup h.good.simple)
theorem canon_later {xs ys : List PT} (h : Rn (xs ++ ys)) : canon (FB (ys ++ xs)) = canon (FB (xs ++ ys)) := by
  obtain ⟨f, g, e1, e2⟩ := FB_rot xs ys
  have hd := simple_nodup h.good.simple
  have hn := h.fne
  rw [e1] at hd hn
  rw [e1, e2]
  exact canon_rot hd hn
section
variable {S : Sto} {P : PD} {X : PX} {cs : List PT}
theorem k_str (h : Rn cs) (k : P (RG (canon (FB cs))) S) : c_straightened [RG cs] S P X := ⟨cs, rfl, h.l3, h.l2, h.b3, h.fne, k⟩
theorem k_lstr (h : Rn cs) (k : P (RG (canon (FB cs))) S) : c__law_straight [RG cs] S P X := ⟨cs, rfl, h.l3, h.l2, h.b3, h.fne, k⟩
theorem k_ar (h : Rn cs) (k : P (.int (arA cs)) S) : c_ring_area [RG cs] S P X := k_area h.ne h.l2 h.b3 k
theorem k_isr (h : Rn cs) (k : P (.bl true) S) : c_is_ring [RG cs] S P X := by
  refine ⟨RG cs, rfl, val_tup ⟨nrl_di cs, by rw [List.length_map]; have := h.len; omega⟩, ?_⟩
  rw [rf_simple h.simple h.b3]
  exact k
end
section
variable {E : EndD} {Y : XS} {S : Sto} {cs bk la : List PT} {a : Int} {z0 z1 z2 z3 z4 z5 z6 z7 z8 z9 : Option PL.D}
theorem t2 (h : Rn bk) (ha : arA bk = 0 - a) (k : E.nx [z0, z1, z2, some (.int a), some (RG bk), z5, z6, z7, z8, z9] S) : w_law_2 E Y [z0, z1, z2, some (.int a), some (RG bk), z5, z6, z7, z8, z9] S := by
  obtain ⟨h1, h2, _⟩ := h.plain
  simp only [w_law_2, xsif, xorB, xbl, x2, xn, xcons, xnil, xcall, v3, v4, xc]
  refine k_str h ?_
  simp only [orepr h1.shw]
  refine k_lstr h ?_
  simp only [orepr h1.shw, oneS, decide_true, Bool.not_true, Bool.false_eq_true, if_false]
  refine k_str h ?_
  refine k_ar h1 ?_
  have e : arA (canon (FB bk)) = 0 - a := h2.trans ha
  simp only [osubI, oneI, e, decide_true, Bool.not_true, Bool.false_eq_true, if_false, xskip]
  exact k
theorem t4 (h : Rn cs) (hla : Rn la) (ar : arA la = arA cs) (k : E.nx [z0, z1, z2, some (.int (arA cs)), z4, z5, some (RG la), some (RG (canon (FB cs))), z8, z9] S) : w_law_4 E Y [z0, z1, z2, some (.int (arA cs)), z4, z5, some (RG la), some (RG (canon (FB cs))), z8, z9] S := by
  obtain ⟨h1, h2, _⟩ := h.plain
  simp only [w_law_4, xsif, xorB, xbl, x2, xn, xcons, xnil, xcall, v3, v6, PL.v7, xc]
  refine k_ar h1 ?_
  simp only [oneI, h2, decide_true, Bool.not_true, Bool.false_eq_true, if_false]
  refine k_ar hla ?_
  simp only [oneI, ar, decide_true, Bool.not_true, Bool.false_eq_true, if_false]
  refine k_isr h1 ?_
  simp only [oisnB, decide_true, Bool.not_true, Bool.false_eq_true, if_false, xskip]
  exact k
theorem t7 (h : Rn cs) (hla : Rn la) (el : canon (FB la) = canon (FB cs)) (k : E.nx [z0, z1, z2, z3, z4, z5, some (RG la), some (RG (canon (FB cs))), some (RG cs), z9] S) : w_law_7 E Y [z0, z1, z2, z3, z4, z5, some (RG la), some (RG (canon (FB cs))), some (RG cs), z9] S := by
  obtain ⟨h1, h2, _⟩ := h.plain
  simp only [w_law_7, xsif, xorB, xbl, x2, xn, xcons, xnil, xcall, v6, PL.v7, PL.v8, xc]
  refine k_str h ?_
  simp only [orepr h1.shw, oneS, decide_true, Bool.not_true, Bool.false_eq_true, if_false]
  refine k_str hla ?_
  simp only [el, one_self h1.shw, Bool.false_eq_true, if_false]
  refine k_str h1 ?_
  simp only [h.again, one_self h1.shw, Bool.false_eq_true, if_false, xskip]
  exact k
theorem t10 (h : Rn cs) (hla : Rn la) (el : canon (FB la) = canon (FB cs)) (ar : arA la = arA cs) (hb : Rn bk) (ab : arA bk = 0 - arA cs) (k : ∀ y, E.nx [z0, z1, z2, some (.int (arA cs)), some (RG bk), z5, some (RG la), y, some (RG cs), z9] S) : w_law_10 E Y [z0, z1, z2, some (.int (arA cs)), some (RG bk), z5, some (RG la), z7, some (RG cs), z9] S := by
  simp only [w_law_10, xseq, w_law_9, xset, xcall, xcons, xnil, PL.v8]
  refine k_lstr h ?_
  simp only [PL.g7, w_law_8, xseq]
  refine t7 h hla el ?_
  simp only [w_law_5, xseq]
  refine t4 h hla ar ?_
  exact t2 hb ab (k _)
theorem t13 (h : Rn cs) {n : Nat} (hn : n < cs.length) (hb : Rn bk) (ab : arA bk = 0 - arA cs) (k : ∀ x y, E.nx [z0, z1, z2, some (.int (arA cs)), some (RG bk), some (.int (n : Int)), x, y, some (RG cs), z9] S) : w_law_15 E Y [z0, z1, z2, some (.int (arA cs)), some (RG bk), some (.int (n : Int)), z6, z7, some (RG cs), z9] S := by
  have hs : cs.take n ++ cs.drop n = cs := List.take_append_drop n cs
  have hla : Rn (cs.drop n ++ cs.take n) := Rn.rot (by rw [hs]; exact h)
  have hl2 := h.l2
  have l0 : (cs.drop n ++ cs.take n).length = cs.length := by rw [List.length_append, List.length_drop, List.length_take]; omega
  have o1 : ∀ (S : Sto) (P : PD), oSlice (RG cs) (some (n : Int)) none S P = P (.tup ((cs.map DI).drop n)) S := fun S P => osl_from
  have o2 : ∀ (S : Sto) (P : PD), oSlice (RG cs) none (some (n : Int)) S P = P (.tup ((cs.map DI).take n)) S := fun S P => osl_to
  simp only [w_law_15, xseq, w_law_14, xset, x2, slF, slT, PL.v5, PL.v8, o1, o2]
  rw [add_tup]
  refine ⟨le_line (by rw [List.length_drop, List.length_take, List.length_map]; omega), ?_⟩
  rw [← List.map_drop, ← List.map_take, ← List.map_append]
  have fin : w_law_10 E Y [z0, z1, z2, some (.int (arA cs)), some (RG bk), some (.int (n : Int)), some (RG (cs.drop n ++ cs.take n)), z7, some (RG cs), z9] S := by
    refine t10 h hla ?_ ?_ hb ab fun y => k _ y
    · have := canon_later (xs := cs.take n) (ys := cs.drop n) (by rw [hs]; exact h)
      rw [this, hs]
    · have := arG_rot crz (cs.take n) (cs.drop n)
      rw [hs] at this
      exact this
  show gVar 6 (RG (cs.drop n ++ cs.take n)) _ _ _ _
  simp only [PL.g6, w_law_13, xseq, w_law_12, xsif, xorB, xbl, x2, xn, xcons, xnil, xcall, PL.v5, v6, PL.v8]
  refine k_begun hl2 ?_
  simp only [orepr hla.shw, oneS, decide_true, Bool.not_true, Bool.false_eq_true, if_false, xif, xbl, x2, xn, xcons, xnil, PL.v5, v6, PL.v8, xc, ocmpI]
  by_cases hz : 0 < (n : Int)
  · simp only [decide_eq_true hz, if_true, x2, xn, xcons, xnil, PL.v5, v6, PL.v8, len_rg, osubI]
    have e : (cs.length : Int) - (n : Int) = ((cs.length - n : Nat) : Int) := by omega
    rw [e]
    refine k_begun (by rw [l0]; exact hl2) ?_
    have ld : (cs.drop n).length = cs.length - n := List.length_drop
    have e2 : (cs.drop n ++ cs.take n).drop (cs.length - n) ++ (cs.drop n ++ cs.take n).take (cs.length - n) = cs := by
      rw [← ld, List.drop_left, List.take_left, hs]
    rw [e2]
    simp only [one_self h.shw, Bool.false_eq_true, if_false, xskip]
    exact fin
  · simp only [decide_eq_false hz, Bool.false_eq_true, if_false, xc, v6]
    refine k_begun (k := 0) (by rw [l0]; exact hl2) ?_
    have e2 : (cs.drop n ++ cs.take n).drop 0 ++ (cs.drop n ++ cs.take n).take 0 = cs := by
      have : n = 0 := by omega
      subst this
      simp
    rw [e2]
    simp only [one_self h.shw, Bool.false_eq_true, if_false, xskip]
    exact fin
theorem t25 {p q : Addr} (hd : Deal S p q) (h : Rg 32 500 cs) (k : ∀ S' w x y z, Deal S' p q → E.nx [z0, some (.ref p), z2, some (.int (arA cs)), w, x, y, z, some (RG cs), z9] S') : w_law_25 E Y [z0, some (.ref p), z2, some (.int (arA cs)), z4, z5, z6, z7, some (RG cs), z9] S := by
  have hr := h.rn
  have hl2 := hr.l2
  have pa := h.area
  have sa : Shw (.int (arA cs)) := shw_i (arA_bd hr.b3 hl2) (by decide)
  have np : decide (arA cs ≤ 0) = false := decide_eq_false (by omega)
  simp only [w_law_25, xseq, w_law_24, xsif, xorB, xbl, x2, xn, xcons, xnil, xcall, v3, PL.v8, xc, ocmpI, np, Bool.false_eq_true, if_false]
  refine k_ar hr ?_
  simp only [orepr sa, oneS, decide_true, Bool.not_true, Bool.false_eq_true, if_false, xskip]
  obtain ⟨c, r, rfl⟩ : ∃ c r, cs = c :: r := by
    cases cs with
    | nil => exact absurd rfl hr.ne
    | cons c r => exact ⟨c, r, rfl⟩
  have hb : Rn (c :: r.reverse) := by
    have : Rn ((c :: r).reverse) := ⟨simple_rev hr.simple, by rw [List.length_reverse]; exact hr.len, fun x hx => hr.b3 x (List.mem_reverse.mp hx)⟩
    rw [List.reverse_cons] at this
    exact this.rot
  have ab : arA (c :: r.reverse) = 0 - arA (c :: r) := by
    have e1 := arA_rev (c :: r) (by simp)
    rw [List.reverse_cons] at e1
    rw [← e1]
    exact arG_rot crz r.reverse [c]
  have o1 : ∀ (S : Sto) (P : PD), oSlice (RG (c :: r)) none (some 1) S P = P (.tup [DI c]) S := fun S P => osl_to (k := 1)
  have o2 : ∀ (S : Sto) (P : PD), oSlice (RG (c :: r)) (some 1) none S P = P (.tup (r.map DI)) S := fun S P => osl_from (k := 1)
  have rl : r.length ≤ 200 := by rw [List.length_cons] at hl2; omega
  simp only [w_law_22, xseq, w_law_21, xset, x2, slT, PL.v8, xc, o1]
  refine xrevT (ds := r.map DI) (fun P => by simp only [slF, PL.v8, xc, o2]) ?_
  rw [add_tup]
  refine ⟨le_line (by rw [List.length_reverse, List.length_map, List.length_singleton]; omega), ?_⟩
  rw [← List.map_reverse]
  show gVar 4 (RG (c :: r.reverse)) _ _ _ _
  simp only [g4, w_law_20, xseq, w_law_19, xsif, xorB, xbl, x2, xn, xcons, xnil, xcall, v3, v4, PL.v8, xc]
  refine k_turned rl ?_
  simp only [orepr hb.shw, oneS, decide_true, Bool.not_true, Bool.false_eq_true, if_false]
  refine k_turned (by rw [List.length_reverse]; exact rl) ?_
  rw [List.reverse_reverse]
  simp only [one_self hr.shw, Bool.false_eq_true, if_false]
  refine k_ar hb ?_
  simp only [osubI, oneI, ab, decide_true, Bool.not_true, Bool.false_eq_true, if_false, xskip, w_law_17, xseq, w_law_16, xset, xcall, xn, xcons, xnil, v1, PL.v8, len_rg]
  refine k_any hd (by have := hr.l3; omega) (by omega) fun n S1 n0 n1 hd1 f1 => ?_
  obtain ⟨n, rfl⟩ := Int.eq_ofNat_of_zero_le n0
  simp only [PL.g5]
  exact t13 hr (by omega) hb ab fun x y => k S1 _ _ x y hd1
theorem t29 {p q : Addr} (hd : Deal S p q) (k : ∀ S' t u v w x y z, Deal S' p q → E.nx [z0, some (.ref p), z2, t, u, v, w, x, y, z] S') : w_law_29 E Y [z0, some (.ref p), z2, z3, z4, z5, z6, z7, z8, z9] S := by
  simp only [w_law_29, xseq, w_law_28, xpar2, xcall, xtup, xcons, xnil, x2, v1, xc]
  refine k_ring hd fun cs S1 hcs hd1 f1 => ?_
  refine k_any hd1 (by decide) (by decide) fun a S2 a0 a1 hd2 f2 => ?_
  simp only [osubI]
  refine k_any hd2 (by decide) (by decide) fun b S3 b0 b1 hd3 f3 => ?_
  refine ⟨two_line, ?_⟩
  have hr := hcs.rn
  simp only [List.set_cons_succ, List.set_cons_zero, w_law_27, xseq, w_law_26, xset, xcall, xcons, xnil, PL.v8, PL.v9]
  refine ⟨cs, (a - 100, b - 100), rfl, hr.ne, hr.l2, hr.b3, by dsimp only; omega, by dsimp only; omega, ?_⟩
  simp only [g3]
  exact t25 hd3 hcs fun S' w x y z hd' => k S' _ w x y z _ _ hd'
theorem turns {p q : Addr} (h : ∀ S' s t u v w x y z, Deal S' p q → E.nx [z0, some (.ref p), s, t, u, v, w, x, y, z] S') : ∀ (ds : List PL.D) (S : Sto) (z2 z3 z4 z5 z6 z7 z8 z9 : Option PL.D), Deal S p q → loopD (gVar 2) w_law_29 E Y ds [z0, some (.ref p), z2, z3, z4, z5, z6, z7, z8, z9] S
  | [], S, z2, z3, z4, z5, z6, z7, z8, z9, hd => h S _ _ _ _ _ _ _ _ hd
  | d :: ds, S, z2, z3, z4, z5, z6, z7, z8, z9, hd => by
    simp only [xloop, g2]
    exact t29 hd fun S' t u v w x y z hd' => turns h ds S' _ _ _ _ _ _ _ _ hd'
end
theorem does_law : Does c_law w_law N_law 1 := by
  rintro ds S P X ⟨ns, hl, hbits, rfl, h0, h⟩
  refine ⟨rfl, ?_⟩
  show w_law_33 _ _ [some (D0 ns), none, none, none, none, none, none, none, none, none] S
  simp only [w_law_33, xseq, w_law_32, xset, xcall, xcons, xnil, v0, xc]
  refine ⟨ns, 10, rfl, by decide, by decide, hl, fun p q S1 _ _ hd _ => ?_⟩
  simp only [g1, w_law_31, xseq, w_law_30, xfor, xrngA, xcons, xnil, xc]
  refine ⟨by decide, ?_⟩
  refine turns (fun S' s t u v w x y z hd' => ?_) _ S1 _ _ _ _ _ _ _ _ hd
  simp only [w_law_0, xret, xc]
  exact ⟨S', Sub.refl _, h S'⟩
def top (i : Nat) : Stmt := PySem.Challenge.pw_leastfield_k10_whole_areas_of_rings.main.body.getD i (.Pass ⟨0, 0, 0, 0⟩)
def G_is_integer : Gs := { fns := [], blt := ["isinstance", "bool", "int"], imp := [], cst := [], exc := [], cls := [], sub := fun _ _ => false, flds := [], muts := [] }
theorem sc_is_integer : FnScope N_is_integer ["value"] (defScope (top 1)) := C8.fnScope_by (by decide +kernel)
theorem tr_is_integer : trSs G_is_integer 60 N_is_integer (defScope (top 1)) (defBody (top 1)) = some w_is_integer := by kernel_rfl
def G_is_tuple_of : Gs := { fns := [], blt := ["len", "isinstance", "tuple"], imp := [], cst := [], exc := [], cls := [], sub := fun _ _ => false, flds := [], muts := [] }
theorem sc_is_tuple_of : FnScope N_is_tuple_of ["value", "size"] (defScope (top 2)) := C8.fnScope_by (by decide +kernel)
theorem tr_is_tuple_of : trSs G_is_tuple_of 60 N_is_tuple_of (defScope (top 2)) (defBody (top 2)) = some w_is_tuple_of := by kernel_rfl
def G_whole_area : Gs := { fns := [], blt := [], imp := [], cst := [], exc := [], cls := [], sub := fun _ _ => false, flds := [], muts := [] }
theorem sc_whole_area : FnScope N_whole_area ["a", "b", "c"] (defScope (top 4)) := C8.fnScope_by (by decide +kernel)
theorem tr_whole_area : trSs G_whole_area 60 N_whole_area (defScope (top 4)) (defBody (top 4)) = some w_whole_area := by kernel_rfl
def G_ring_sides : Gs := { fns := [], blt := ["tuple", "range", "len"], imp := [], cst := [], exc := [], cls := [], sub := fun _ _ => false, flds := [], muts := [] }
theorem sc_ring_sides : FnScope N_ring_sides ["ring"] (defScope (top 12)) := C8.fnScope_by (by decide +kernel)
theorem tr_ring_sides : trSs G_ring_sides 60 N_ring_sides (defScope (top 12)) (defBody (top 12)) = some w_ring_sides := by kernel_rfl
def G_turned_ring : Gs := { fns := [], blt := [], imp := [], cst := [], exc := [], cls := [], sub := fun _ _ => false, flds := [], muts := [] }
theorem sc_turned_ring : FnScope N_turned_ring ["ring"] (defScope (top 19)) := C8.fnScope_by (by decide +kernel)
theorem tr_turned_ring : trSs G_turned_ring 60 N_turned_ring (defScope (top 19)) (defBody (top 19)) = some w_turned_ring := by kernel_rfl
def G_begun : Gs := { fns := [], blt := [], imp := [], cst := [], exc := [], cls := [], sub := fun _ _ => false, flds := [], muts := [] }
theorem sc_begun : FnScope N_begun ["ring", "at"] (defScope (top 20)) := C8.fnScope_by (by decide +kernel)
theorem tr_begun : trSs G_begun 60 N_begun (defScope (top 20)) (defBody (top 20)) = some w_begun := by kernel_rfl
def G__law_deal : Gs := { fns := [], blt := ["int", "abs"], imp := [], cst := [], exc := [], cls := [], sub := fun _ _ => false, flds := [], muts := [(75, 11), (75, 12)] }
theorem sc__law_deal : FnScope N__law_deal ["_law_script", "_law_base"] (defScope (top 23)) := C8.fnScope_by (by decide +kernel)
theorem tr__law_deal : trSs G__law_deal 60 N__law_deal (defScope (top 23)) (defBody (top 23)) = some w__law_deal := by kernel_rfl
def G__law_any : Gs := { fns := [], blt := ["int"], imp := [], cst := [], exc := [], cls := [], sub := fun _ _ => false, flds := [], muts := [] }
theorem sc__law_any : FnScope N__law_any ["_law_deal_here", "_law_bound"] (defScope (top 24)) := C8.fnScope_by (by decide +kernel)
theorem tr__law_any : trSs G__law_any 60 N__law_any (defScope (top 24)) (defBody (top 24)) = some w__law_any := by kernel_rfl
def G__law_put : Gs := { fns := [], blt := ["tuple"], imp := [], cst := [], exc := [], cls := [], sub := fun _ _ => false, flds := [], muts := [] }
theorem sc__law_put : FnScope N__law_put ["_law_ring_here", "_law_rule"] (defScope (top 30)) := C8.fnScope_by (by decide +kernel)
theorem tr__law_put : trSs G__law_put 60 N__law_put (defScope (top 30)) (defBody (top 30)) = some w__law_put := by kernel_rfl
def G__law_area : Gs := { fns := [], blt := ["range", "len"], imp := [], cst := [], exc := [], cls := [], sub := fun _ _ => false, flds := [], muts := [] }
theorem sc__law_area : FnScope N__law_area ["_law_ring_here", "_law_spot"] (defScope (top 32)) := C8.fnScope_by (by decide +kernel)
theorem tr__law_area : trSs G__law_area 60 N__law_area (defScope (top 32)) (defBody (top 32)) = some w__law_area := by kernel_rfl
def G__law_straight : Gs := { fns := [], blt := ["tuple", "min", "range", "len", "int"], imp := [], cst := [], exc := [], cls := [], sub := fun _ _ => false, flds := [], muts := [(129, 17)] }
theorem sc__law_straight : FnScope N__law_straight ["_law_ring_here"] (defScope (top 33)) := C8.fnScope_by (by decide +kernel)
theorem tr__law_straight : trSs G__law_straight 60 N__law_straight (defScope (top 33)) (defBody (top 33)) = some w__law_straight := by kernel_rfl
def G_whole_turn : Gs := { fns := [⟨"whole_area", ["a", "b", "c"], c_whole_area, [(3, [])]⟩], blt := [], imp := [], cst := [], exc := [], cls := [], sub := fun _ _ => false, flds := [], muts := [] }
theorem sc_whole_turn : FnScope N_whole_turn ["a", "b", "c"] (defScope (top 5)) := C8.fnScope_by (by decide +kernel)
theorem tr_whole_turn : trSs G_whole_turn 60 N_whole_turn (defScope (top 5)) (defBody (top 5)) = some w_whole_turn := by kernel_rfl
def G_whole_on : Gs := { fns := [⟨"whole_area", ["a", "b", "c"], c_whole_area, [(3, [])]⟩], blt := [], imp := [], cst := [], exc := [], cls := [], sub := fun _ _ => false, flds := [], muts := [] }
theorem sc_whole_on : FnScope N_whole_on ["a", "b", "p"] (defScope (top 6)) := C8.fnScope_by (by decide +kernel)
theorem tr_whole_on : trSs G_whole_on 60 N_whole_on (defScope (top 6)) (defBody (top 6)) = some w_whole_on := by kernel_rfl
def G_is_corner : Gs := { fns := [⟨"is_integer", ["value"], c_is_integer, [(1, [])]⟩, ⟨"is_tuple_of", ["value", "size"], c_is_tuple_of, [(2, [])]⟩], blt := ["abs"], imp := [], cst := [("FARTHEST", k_FARTHEST)], exc := [], cls := [], sub := fun _ _ => false, flds := [], muts := [] }
theorem sc_is_corner : FnScope N_is_corner ["value"] (defScope (top 11)) := C8.fnScope_by (by decide +kernel)
theorem tr_is_corner : trSs G_is_corner 60 N_is_corner (defScope (top 11)) (defBody (top 11)) = some w_is_corner := by kernel_rfl
def G_ring_area : Gs := { fns := [⟨"ring_sides", ["ring"], c_ring_sides, [(1, [])]⟩], blt := ["sum"], imp := [], cst := [], exc := [], cls := [], sub := fun _ _ => false, flds := [], muts := [] }
theorem sc_ring_area : FnScope N_ring_area ["ring"] (defScope (top 18)) := C8.fnScope_by (by decide +kernel)
theorem tr_ring_area : trSs G_ring_area 60 N_ring_area (defScope (top 18)) (defBody (top 18)) = some w_ring_area := by kernel_rfl
def G_straightened : Gs := { fns := [⟨"begun", ["ring", "at"], c_begun, [(2, [])]⟩, ⟨"whole_area", ["a", "b", "c"], c_whole_area, [(3, [])]⟩], blt := ["min", "tuple", "enumerate", "len"], imp := [], cst := [], exc := [], cls := [], sub := fun _ _ => false, flds := [], muts := [(64, 12)] }
theorem sc_straightened : FnScope N_straightened ["ring"] (defScope (top 21)) := C8.fnScope_by (by decide +kernel)
theorem tr_straightened : trSs G_straightened 60 N_straightened (defScope (top 21)) (defBody (top 21)) = some w_straightened := by kernel_rfl
def G__law_of : Gs := { fns := [⟨"_law_any", ["_law_deal_here", "_law_bound"], c__law_any, [(2, [])]⟩], blt := ["len"], imp := [], cst := [], exc := [], cls := [], sub := fun _ _ => false, flds := [], muts := [] }
theorem sc__law_of : FnScope N__law_of ["_law_deal_here", "_law_some"] (defScope (top 25)) := C8.fnScope_by (by decide +kernel)
theorem tr__law_of : trSs G__law_of 60 N__law_of (defScope (top 25)) (defBody (top 25)) = some w__law_of := by kernel_rfl
def G__law_star : Gs := { fns := [⟨"_law_any", ["_law_deal_here", "_law_bound"], c__law_any, [(2, [])]⟩], blt := ["tuple", "range"], imp := [], cst := [], exc := [], cls := [], sub := fun _ _ => false, flds := [], muts := [(94, 17)] }
theorem sc__law_star : FnScope N__law_star ["_law_deal_here", "_law_centre", "_law_most", "_law_each"] (defScope (top 26)) := C8.fnScope_by (by decide +kernel)
theorem tr__law_star : trSs G__law_star 60 N__law_star (defScope (top 26)) (defBody (top 26)) = some w__law_star := by kernel_rfl
def G__law_wave : Gs := { fns := [⟨"_law_any", ["_law_deal_here", "_law_bound"], c__law_any, [(2, [])]⟩], blt := ["tuple", "range"], imp := [], cst := [], exc := [], cls := [], sub := fun _ _ => false, flds := [], muts := [] }
theorem sc__law_wave : FnScope N__law_wave ["_law_deal_here", "_law_many"] (defScope (top 27)) := C8.fnScope_by (by decide +kernel)
theorem tr__law_wave : trSs G__law_wave 60 N__law_wave (defScope (top 27)) (defBody (top 27)) = some w__law_wave := by kernel_rfl
def G__law_more : Gs := { fns := [⟨"_law_any", ["_law_deal_here", "_law_bound"], c__law_any, [(2, [])]⟩], blt := ["tuple", "len", "range", "int"], imp := [], cst := [], exc := [], cls := [], sub := fun _ _ => false, flds := [], muts := [(104, 17)] }
theorem sc__law_more : FnScope N__law_more ["_law_deal_here", "_law_ring_here"] (defScope (top 28)) := C8.fnScope_by (by decide +kernel)
theorem tr__law_more : trSs G__law_more 60 N__law_more (defScope (top 28)) (defBody (top 28)) = some w__law_more := by kernel_rfl
def G_whole_crosses : Gs := { fns := [⟨"whole_turn", ["a", "b", "c"], c_whole_turn, [(3, [])]⟩], blt := [], imp := [], cst := [], exc := [], cls := [], sub := fun _ _ => false, flds := [], muts := [] }
theorem sc_whole_crosses : FnScope N_whole_crosses ["a", "b", "c", "d"] (defScope (top 7)) := C8.fnScope_by (by decide +kernel)
theorem tr_whole_crosses : trSs G_whole_crosses 60 N_whole_crosses (defScope (top 7)) (defBody (top 7)) = some w_whole_crosses := by kernel_rfl
def G_turns_back : Gs := { fns := [⟨"whole_on", ["a", "b", "p"], c_whole_on, [(3, [])]⟩, ⟨"whole_area", ["a", "b", "c"], c_whole_area, [(3, [])]⟩], blt := [], imp := [], cst := [], exc := [], cls := [], sub := fun _ _ => false, flds := [], muts := [] }
theorem sc_turns_back : FnScope N_turns_back ["a", "b", "c"] (defScope (top 14)) := C8.fnScope_by (by decide +kernel)
theorem tr_turns_back : trSs G_turns_back 60 N_turns_back (defScope (top 14)) (defBody (top 14)) = some w_turns_back := by kernel_rfl
def G__law_map : Gs := { fns := [⟨"_law_of", ["_law_deal_here", "_law_some"], c__law_of, [(2, [])]⟩, ⟨"_law_any", ["_law_deal_here", "_law_bound"], c__law_any, [(2, [])]⟩], blt := [], imp := [], cst := [], exc := [], cls := [], sub := fun _ _ => false, flds := [], muts := [] }
theorem sc__law_map : FnScope N__law_map ["_law_deal_here"] (defScope (top 29)) := C8.fnScope_by (by decide +kernel)
theorem tr__law_map : trSs G__law_map 60 N__law_map (defScope (top 29)) (defBody (top 29)) = some w__law_map := by kernel_rfl
def G_sides_meet : Gs := { fns := [⟨"whole_on", ["a", "b", "p"], c_whole_on, [(3, [])]⟩, ⟨"whole_crosses", ["a", "b", "c", "d"], c_whole_crosses, [(4, [])]⟩], blt := [], imp := [], cst := [], exc := [], cls := [], sub := fun _ _ => false, flds := [], muts := [] }
theorem sc_sides_meet : FnScope N_sides_meet ["one", "other"] (defScope (top 13)) := C8.fnScope_by (by decide +kernel)
theorem tr_sides_meet : trSs G_sides_meet 60 N_sides_meet (defScope (top 13)) (defBody (top 13)) = some w_sides_meet := by kernel_rfl
def G__law_ring : Gs := { fns := [⟨"_law_more", ["_law_deal_here", "_law_ring_here"], c__law_more, [(2, [])]⟩, ⟨"_law_put", ["_law_ring_here", "_law_rule"], c__law_put, [(2, [])]⟩, ⟨"_law_map", ["_law_deal_here"], c__law_map, [(1, [])]⟩, ⟨"_law_any", ["_law_deal_here", "_law_bound"], c__law_any, [(2, [])]⟩, ⟨"_law_star", ["_law_deal_here", "_law_centre", "_law_most", "_law_each"], c__law_star, [(4, [])]⟩, ⟨"_law_wave", ["_law_deal_here", "_law_many"], c__law_wave, [(2, [])]⟩], blt := [], imp := [], cst := [], exc := [], cls := [], sub := fun _ _ => false, flds := [], muts := [] }
theorem sc__law_ring : FnScope N__law_ring ["_law_deal_here"] (defScope (top 31)) := C8.fnScope_by (by decide +kernel)
theorem tr__law_ring : trSs G__law_ring 60 N__law_ring (defScope (top 31)) (defBody (top 31)) = some w__law_ring := by kernel_rfl
def G_crosses_itself : Gs := { fns := [⟨"sides_meet", ["one", "other"], c_sides_meet, [(2, [])]⟩, ⟨"turns_back", ["a", "b", "c"], c_turns_back, [(3, [])]⟩, ⟨"ring_sides", ["ring"], c_ring_sides, [(1, [])]⟩], blt := ["range", "len"], imp := [], cst := [], exc := [], cls := [], sub := fun _ _ => false, flds := [], muts := [] }
theorem sc_crosses_itself : FnScope N_crosses_itself ["ring"] (defScope (top 15)) := C8.fnScope_by (by decide +kernel)
theorem tr_crosses_itself : trSs G_crosses_itself 60 N_crosses_itself (defScope (top 15)) (defBody (top 15)) = some w_crosses_itself := by kernel_rfl
def G_ring_fault : Gs := { fns := [⟨"crosses_itself", ["ring"], c_crosses_itself, [(1, [])]⟩, ⟨"is_corner", ["value"], c_is_corner, [(1, [])]⟩], blt := ["len", "enumerate", "isinstance", "tuple"], imp := [], cst := [("FEWEST", k_FEWEST)], exc := [], cls := [], sub := fun _ _ => false, flds := [], muts := [] }
theorem sc_ring_fault : FnScope N_ring_fault ["value"] (defScope (top 16)) := C8.fnScope_by (by decide +kernel)
theorem tr_ring_fault : trSs G_ring_fault 60 N_ring_fault (defScope (top 16)) (defBody (top 16)) = some w_ring_fault := by kernel_rfl
def G_is_ring : Gs := { fns := [⟨"ring_fault", ["value"], c_ring_fault, [(1, [])]⟩], blt := [], imp := [], cst := [], exc := [], cls := [], sub := fun _ _ => false, flds := [], muts := [] }
theorem sc_is_ring : FnScope N_is_ring ["value"] (defScope (top 17)) := C8.fnScope_by (by decide +kernel)
theorem tr_is_ring : trSs G_is_ring 60 N_is_ring (defScope (top 17)) (defBody (top 17)) = some w_is_ring := by kernel_rfl
def G_law : Gs := { fns := [⟨"ring_area", ["ring"], c_ring_area, [(1, []), (0, ["ring"])]⟩, ⟨"straightened", ["ring"], c_straightened, [(1, []), (0, ["ring"])]⟩, ⟨"_law_straight", ["_law_ring_here"], c__law_straight, [(1, [])]⟩, ⟨"is_ring", ["value"], c_is_ring, [(1, [])]⟩, ⟨"begun", ["ring", "at"], c_begun, [(0, ["at", "ring"]), (2, [])]⟩, ⟨"_law_any", ["_law_deal_here", "_law_bound"], c__law_any, [(2, [])]⟩, ⟨"turned_ring", ["ring"], c_turned_ring, [(0, ["ring"]), (1, [])]⟩, ⟨"_law_area", ["_law_ring_here", "_law_spot"], c__law_area, [(2, [])]⟩, ⟨"_law_ring", ["_law_deal_here"], c__law_ring, [(1, [])]⟩, ⟨"_law_deal", ["_law_script", "_law_base"], c__law_deal, [(2, [])]⟩], blt := ["range", "repr", "len"], imp := [], cst := [], exc := [], cls := [], sub := fun _ _ => false, flds := [], muts := [] }
theorem sc_law : FnScope N_law ["_law_script"] (defScope (top 34)) := C8.fnScope_by (by decide +kernel)
theorem tr_law : trSs G_law 60 N_law (defScope (top 34)) (defBody (top 34)) = some w_law := by kernel_rfl
theorem facts {P : Program} {w : World} {K : PySem.W.Frag} {h : Heap} {mg : Str → Option Value} {fa : Addr} (X : K.In h) (G : h.Ns mainGlobals mg) (hm : mg "law" = some (.ref fa))
    (d_is_integer : DefE K "is_integer" (top 1))
    (d_is_tuple_of : DefE K "is_tuple_of" (top 2))
    (d_whole_area : DefE K "whole_area" (top 4))
    (d_ring_sides : DefE K "ring_sides" (top 12))
    (d_turned_ring : DefE K "turned_ring" (top 19))
    (d_begun : DefE K "begun" (top 20))
    (d__law_deal : DefE K "_law_deal" (top 23))
    (d__law_any : DefE K "_law_any" (top 24))
    (d__law_put : DefE K "_law_put" (top 30))
    (d__law_area : DefE K "_law_area" (top 32))
    (d__law_straight : DefE K "_law_straight" (top 33))
    (d_whole_turn : DefE K "whole_turn" (top 5))
    (d_whole_on : DefE K "whole_on" (top 6))
    (d_is_corner : DefE K "is_corner" (top 11))
    (d_ring_area : DefE K "ring_area" (top 18))
    (d_straightened : DefE K "straightened" (top 21))
    (d__law_of : DefE K "_law_of" (top 25))
    (d__law_star : DefE K "_law_star" (top 26))
    (d__law_wave : DefE K "_law_wave" (top 27))
    (d__law_more : DefE K "_law_more" (top 28))
    (d_whole_crosses : DefE K "whole_crosses" (top 7))
    (d_turns_back : DefE K "turns_back" (top 14))
    (d__law_map : DefE K "_law_map" (top 29))
    (d_sides_meet : DefE K "sides_meet" (top 13))
    (d__law_ring : DefE K "_law_ring" (top 31))
    (d_crosses_itself : DefE K "crosses_itself" (top 15))
    (d_ring_fault : DefE K "ring_fault" (top 16))
    (d_is_ring : DefE K "is_ring" (top 17))
    (d_law : DefE K "law" (top 34))
    (b_isinstance : PySem.W.nsIn K mainGlobals "isinstance" = some none)
    (b_bool : PySem.W.nsIn K mainGlobals "bool" = some none)
    (b_int : PySem.W.nsIn K mainGlobals "int" = some none)
    (b_len : PySem.W.nsIn K mainGlobals "len" = some none)
    (b_tuple : PySem.W.nsIn K mainGlobals "tuple" = some none)
    (b_range : PySem.W.nsIn K mainGlobals "range" = some none)
    (b_abs : PySem.W.nsIn K mainGlobals "abs" = some none)
    (b_min : PySem.W.nsIn K mainGlobals "min" = some none)
    (b_sum : PySem.W.nsIn K mainGlobals "sum" = some none)
    (b_enumerate : PySem.W.nsIn K mainGlobals "enumerate" = some none)
    (b_repr : PySem.W.nsIn K mainGlobals "repr" = some none)
    (x_FARTHEST : CstT K "FARTHEST" k_FARTHEST)
    (x_FEWEST : CstT K "FEWEST" k_FEWEST) :
    ∃ fd : FuncData, (∀ (s : Shared) (u : Value), BindsTo s fd ⟨[u], []⟩ [("_law_script", u)]) ∧ ∀ base : Heap, K.In base → base.Ns mainGlobals mg → FnG P w K mg base 8 fa fd ["_law_script"] LawC := by
  obtain ⟨f_is_integer, fd_is_integer, D_is_integer⟩ := d_is_integer
  have F_is_integer : ∀ base, FnG P w K mg base 1 f_is_integer fd_is_integer ["value"] c_is_integer := fun base => D_is_integer.fnG sc_is_integer (tab (G := G_is_integer) all_nil (all_cons (PySem.W.mg_none_of X G b_isinstance) (all_cons (PySem.W.mg_none_of X G b_bool) (all_cons (PySem.W.mg_none_of X G b_int) all_nil))) all_nil all_nil all_nil all_nil all_nil all_nil) tr_is_integer does_is_integer
  have P_is_integer_0 : BindsK fd_is_integer ["value"] 1 [] := D_is_integer.binds (fun doc pm an cd ct us ws hu hw => match us, ws, hu, hw with | [_], [], _, _ => ⟨by kernel_rfl, by kernel_rfl⟩)
  obtain ⟨f_is_tuple_of, fd_is_tuple_of, D_is_tuple_of⟩ := d_is_tuple_of
  have F_is_tuple_of : ∀ base, FnG P w K mg base 1 f_is_tuple_of fd_is_tuple_of ["value", "size"] c_is_tuple_of := fun base => D_is_tuple_of.fnG sc_is_tuple_of (tab (G := G_is_tuple_of) all_nil (all_cons (PySem.W.mg_none_of X G b_len) (all_cons (PySem.W.mg_none_of X G b_isinstance) (all_cons (PySem.W.mg_none_of X G b_tuple) all_nil))) all_nil all_nil all_nil all_nil all_nil all_nil) tr_is_tuple_of does_is_tuple_of
  have P_is_tuple_of_0 : BindsK fd_is_tuple_of ["value", "size"] 2 [] := D_is_tuple_of.binds (fun doc pm an cd ct us ws hu hw => match us, ws, hu, hw with | [_, _], [], _, _ => ⟨by kernel_rfl, by kernel_rfl⟩)
  obtain ⟨f_whole_area, fd_whole_area, D_whole_area⟩ := d_whole_area
  have F_whole_area : ∀ base, FnG P w K mg base 1 f_whole_area fd_whole_area ["a", "b", "c"] c_whole_area := fun base => D_whole_area.fnG sc_whole_area (tab (G := G_whole_area) all_nil all_nil all_nil all_nil all_nil all_nil all_nil all_nil) tr_whole_area does_whole_area
  have P_whole_area_0 : BindsK fd_whole_area ["a", "b", "c"] 3 [] := D_whole_area.binds (fun doc pm an cd ct us ws hu hw => match us, ws, hu, hw with | [_, _, _], [], _, _ => ⟨by kernel_rfl, by kernel_rfl⟩)
  obtain ⟨f_ring_sides, fd_ring_sides, D_ring_sides⟩ := d_ring_sides
  have F_ring_sides : ∀ base, FnG P w K mg base 1 f_ring_sides fd_ring_sides ["ring"] c_ring_sides := fun base => D_ring_sides.fnG sc_ring_sides (tab (G := G_ring_sides) all_nil (all_cons (PySem.W.mg_none_of X G b_tuple) (all_cons (PySem.W.mg_none_of X G b_range) (all_cons (PySem.W.mg_none_of X G b_len) all_nil))) all_nil all_nil all_nil all_nil all_nil all_nil) tr_ring_sides does_ring_sides
  have P_ring_sides_0 : BindsK fd_ring_sides ["ring"] 1 [] := D_ring_sides.binds (fun doc pm an cd ct us ws hu hw => match us, ws, hu, hw with | [_], [], _, _ => ⟨by kernel_rfl, by kernel_rfl⟩)
  obtain ⟨f_turned_ring, fd_turned_ring, D_turned_ring⟩ := d_turned_ring
  have F_turned_ring : ∀ base, FnG P w K mg base 1 f_turned_ring fd_turned_ring ["ring"] c_turned_ring := fun base => D_turned_ring.fnG sc_turned_ring (tab (G := G_turned_ring) all_nil all_nil all_nil all_nil all_nil all_nil all_nil all_nil) tr_turned_ring does_turned_ring
  have P_turned_ring_0 : BindsK fd_turned_ring ["ring"] 0 ["ring"] := D_turned_ring.binds (fun doc pm an cd ct us ws hu hw => match us, ws, hu, hw with | [], [_], _, _ => ⟨by kernel_rfl, by kernel_rfl⟩)
  have P_turned_ring_1 : BindsK fd_turned_ring ["ring"] 1 [] := D_turned_ring.binds (fun doc pm an cd ct us ws hu hw => match us, ws, hu, hw with | [_], [], _, _ => ⟨by kernel_rfl, by kernel_rfl⟩)
  obtain ⟨f_begun, fd_begun, D_begun⟩ := d_begun
  have F_begun : ∀ base, FnG P w K mg base 1 f_begun fd_begun ["ring", "at"] c_begun := fun base => D_begun.fnG sc_begun (tab (G := G_begun) all_nil all_nil all_nil all_nil all_nil all_nil all_nil all_nil) tr_begun does_begun
  have P_begun_0 : BindsK fd_begun ["ring", "at"] 2 [] := D_begun.binds (fun doc pm an cd ct us ws hu hw => match us, ws, hu, hw with | [_, _], [], _, _ => ⟨by kernel_rfl, by kernel_rfl⟩)
  have P_begun_1 : BindsK fd_begun ["ring", "at"] 0 ["at", "ring"] := D_begun.binds (fun doc pm an cd ct us ws hu hw => match us, ws, hu, hw with | [], [_, _], _, _ => ⟨by kernel_rfl, by kernel_rfl⟩)
  obtain ⟨f__law_deal, fd__law_deal, D__law_deal⟩ := d__law_deal
  have F__law_deal : ∀ base, FnG P w K mg base 1 f__law_deal fd__law_deal ["_law_script", "_law_base"] c__law_deal := fun base => D__law_deal.fnG sc__law_deal (tab (G := G__law_deal) all_nil (all_cons (PySem.W.mg_none_of X G b_int) (all_cons (PySem.W.mg_none_of X G b_abs) all_nil)) all_nil all_nil all_nil all_nil all_nil all_nil) tr__law_deal does__law_deal
  have P__law_deal_0 : BindsK fd__law_deal ["_law_script", "_law_base"] 2 [] := D__law_deal.binds (fun doc pm an cd ct us ws hu hw => match us, ws, hu, hw with | [_, _], [], _, _ => ⟨by kernel_rfl, by kernel_rfl⟩)
  obtain ⟨f__law_any, fd__law_any, D__law_any⟩ := d__law_any
  have F__law_any : ∀ base, FnG P w K mg base 1 f__law_any fd__law_any ["_law_deal_here", "_law_bound"] c__law_any := fun base => D__law_any.fnG sc__law_any (tab (G := G__law_any) all_nil (all_cons (PySem.W.mg_none_of X G b_int) all_nil) all_nil all_nil all_nil all_nil all_nil all_nil) tr__law_any does__law_any
  have P__law_any_0 : BindsK fd__law_any ["_law_deal_here", "_law_bound"] 2 [] := D__law_any.binds (fun doc pm an cd ct us ws hu hw => match us, ws, hu, hw with | [_, _], [], _, _ => ⟨by kernel_rfl, by kernel_rfl⟩)
  obtain ⟨f__law_put, fd__law_put, D__law_put⟩ := d__law_put
  have F__law_put : ∀ base, FnG P w K mg base 1 f__law_put fd__law_put ["_law_ring_here", "_law_rule"] c__law_put := fun base => D__law_put.fnG sc__law_put (tab (G := G__law_put) all_nil (all_cons (PySem.W.mg_none_of X G b_tuple) all_nil) all_nil all_nil all_nil all_nil all_nil all_nil) tr__law_put does__law_put
  have P__law_put_0 : BindsK fd__law_put ["_law_ring_here", "_law_rule"] 2 [] := D__law_put.binds (fun doc pm an cd ct us ws hu hw => match us, ws, hu, hw with | [_, _], [], _, _ => ⟨by kernel_rfl, by kernel_rfl⟩)
  obtain ⟨f__law_area, fd__law_area, D__law_area⟩ := d__law_area
  have F__law_area : ∀ base, FnG P w K mg base 1 f__law_area fd__law_area ["_law_ring_here", "_law_spot"] c__law_area := fun base => D__law_area.fnG sc__law_area (tab (G := G__law_area) all_nil (all_cons (PySem.W.mg_none_of X G b_range) (all_cons (PySem.W.mg_none_of X G b_len) all_nil)) all_nil all_nil all_nil all_nil all_nil all_nil) tr__law_area does__law_area
  have P__law_area_0 : BindsK fd__law_area ["_law_ring_here", "_law_spot"] 2 [] := D__law_area.binds (fun doc pm an cd ct us ws hu hw => match us, ws, hu, hw with | [_, _], [], _, _ => ⟨by kernel_rfl, by kernel_rfl⟩)
  obtain ⟨f__law_straight, fd__law_straight, D__law_straight⟩ := d__law_straight
  have F__law_straight : ∀ base, FnG P w K mg base 1 f__law_straight fd__law_straight ["_law_ring_here"] c__law_straight := fun base => D__law_straight.fnG sc__law_straight (tab (G := G__law_straight) all_nil (all_cons (PySem.W.mg_none_of X G b_tuple) (all_cons (PySem.W.mg_none_of X G b_min) (all_cons (PySem.W.mg_none_of X G b_range) (all_cons (PySem.W.mg_none_of X G b_len) (all_cons (PySem.W.mg_none_of X G b_int) all_nil))))) all_nil all_nil all_nil all_nil all_nil all_nil) tr__law_straight does__law_straight
  have P__law_straight_0 : BindsK fd__law_straight ["_law_ring_here"] 1 [] := D__law_straight.binds (fun doc pm an cd ct us ws hu hw => match us, ws, hu, hw with | [_], [], _, _ => ⟨by kernel_rfl, by kernel_rfl⟩)
  obtain ⟨f_whole_turn, fd_whole_turn, D_whole_turn⟩ := d_whole_turn
  have F_whole_turn : ∀ base, FnG P w K mg base 2 f_whole_turn fd_whole_turn ["a", "b", "c"] c_whole_turn := fun base => D_whole_turn.fnG sc_whole_turn (tab (G := G_whole_turn) (all_cons ((D_whole_area).entry X G (by decide) (F_whole_area base) (all_cons (P_whole_area_0) all_nil)) all_nil) all_nil all_nil all_nil all_nil all_nil all_nil all_nil) tr_whole_turn does_whole_turn
  have P_whole_turn_0 : BindsK fd_whole_turn ["a", "b", "c"] 3 [] := D_whole_turn.binds (fun doc pm an cd ct us ws hu hw => match us, ws, hu, hw with | [_, _, _], [], _, _ => ⟨by kernel_rfl, by kernel_rfl⟩)
  obtain ⟨f_whole_on, fd_whole_on, D_whole_on⟩ := d_whole_on
  have F_whole_on : ∀ base, FnG P w K mg base 2 f_whole_on fd_whole_on ["a", "b", "p"] c_whole_on := fun base => D_whole_on.fnG sc_whole_on (tab (G := G_whole_on) (all_cons ((D_whole_area).entry X G (by decide) (F_whole_area base) (all_cons (P_whole_area_0) all_nil)) all_nil) all_nil all_nil all_nil all_nil all_nil all_nil all_nil) tr_whole_on does_whole_on
  have P_whole_on_0 : BindsK fd_whole_on ["a", "b", "p"] 3 [] := D_whole_on.binds (fun doc pm an cd ct us ws hu hw => match us, ws, hu, hw with | [_, _, _], [], _, _ => ⟨by kernel_rfl, by kernel_rfl⟩)
  obtain ⟨f_is_corner, fd_is_corner, D_is_corner⟩ := d_is_corner
  have F_is_corner : ∀ base, FnG P w K mg base 2 f_is_corner fd_is_corner ["value"] c_is_corner := fun base => D_is_corner.fnG sc_is_corner (tab (G := G_is_corner) (all_cons ((D_is_integer).entry X G (by decide) (F_is_integer base) (all_cons (P_is_integer_0) all_nil)) (all_cons ((D_is_tuple_of).entry X G (by decide) (F_is_tuple_of base) (all_cons (P_is_tuple_of_0) all_nil)) all_nil)) (all_cons (PySem.W.mg_none_of X G b_abs) all_nil) all_nil (all_cons (x_FARTHEST.get X G) all_nil) all_nil all_nil all_nil all_nil) tr_is_corner does_is_corner
  have P_is_corner_0 : BindsK fd_is_corner ["value"] 1 [] := D_is_corner.binds (fun doc pm an cd ct us ws hu hw => match us, ws, hu, hw with | [_], [], _, _ => ⟨by kernel_rfl, by kernel_rfl⟩)
  obtain ⟨f_ring_area, fd_ring_area, D_ring_area⟩ := d_ring_area
  have F_ring_area : ∀ base, FnG P w K mg base 2 f_ring_area fd_ring_area ["ring"] c_ring_area := fun base => D_ring_area.fnG sc_ring_area (tab (G := G_ring_area) (all_cons ((D_ring_sides).entry X G (by decide) (F_ring_sides base) (all_cons (P_ring_sides_0) all_nil)) all_nil) (all_cons (PySem.W.mg_none_of X G b_sum) all_nil) all_nil all_nil all_nil all_nil all_nil all_nil) tr_ring_area does_ring_area
  have P_ring_area_0 : BindsK fd_ring_area ["ring"] 1 [] := D_ring_area.binds (fun doc pm an cd ct us ws hu hw => match us, ws, hu, hw with | [_], [], _, _ => ⟨by kernel_rfl, by kernel_rfl⟩)
  have P_ring_area_1 : BindsK fd_ring_area ["ring"] 0 ["ring"] := D_ring_area.binds (fun doc pm an cd ct us ws hu hw => match us, ws, hu, hw with | [], [_], _, _ => ⟨by kernel_rfl, by kernel_rfl⟩)
  obtain ⟨f_straightened, fd_straightened, D_straightened⟩ := d_straightened
  have F_straightened : ∀ base, FnG P w K mg base 2 f_straightened fd_straightened ["ring"] c_straightened := fun base => D_straightened.fnG sc_straightened (tab (G := G_straightened) (all_cons ((D_begun).entry X G (by decide) (F_begun base) (all_cons (P_begun_0) all_nil)) (all_cons ((D_whole_area).entry X G (by decide) (F_whole_area base) (all_cons (P_whole_area_0) all_nil)) all_nil)) (all_cons (PySem.W.mg_none_of X G b_min) (all_cons (PySem.W.mg_none_of X G b_tuple) (all_cons (PySem.W.mg_none_of X G b_enumerate) (all_cons (PySem.W.mg_none_of X G b_len) all_nil)))) all_nil all_nil all_nil all_nil all_nil all_nil) tr_straightened does_straightened
  have P_straightened_0 : BindsK fd_straightened ["ring"] 1 [] := D_straightened.binds (fun doc pm an cd ct us ws hu hw => match us, ws, hu, hw with | [_], [], _, _ => ⟨by kernel_rfl, by kernel_rfl⟩)
  have P_straightened_1 : BindsK fd_straightened ["ring"] 0 ["ring"] := D_straightened.binds (fun doc pm an cd ct us ws hu hw => match us, ws, hu, hw with | [], [_], _, _ => ⟨by kernel_rfl, by kernel_rfl⟩)
  obtain ⟨f__law_of, fd__law_of, D__law_of⟩ := d__law_of
  have F__law_of : ∀ base, FnG P w K mg base 2 f__law_of fd__law_of ["_law_deal_here", "_law_some"] c__law_of := fun base => D__law_of.fnG sc__law_of (tab (G := G__law_of) (all_cons ((D__law_any).entry X G (by decide) (F__law_any base) (all_cons (P__law_any_0) all_nil)) all_nil) (all_cons (PySem.W.mg_none_of X G b_len) all_nil) all_nil all_nil all_nil all_nil all_nil all_nil) tr__law_of does__law_of
  have P__law_of_0 : BindsK fd__law_of ["_law_deal_here", "_law_some"] 2 [] := D__law_of.binds (fun doc pm an cd ct us ws hu hw => match us, ws, hu, hw with | [_, _], [], _, _ => ⟨by kernel_rfl, by kernel_rfl⟩)
  obtain ⟨f__law_star, fd__law_star, D__law_star⟩ := d__law_star
  have F__law_star : ∀ base, FnG P w K mg base 2 f__law_star fd__law_star ["_law_deal_here", "_law_centre", "_law_most", "_law_each"] c__law_star := fun base => D__law_star.fnG sc__law_star (tab (G := G__law_star) (all_cons ((D__law_any).entry X G (by decide) (F__law_any base) (all_cons (P__law_any_0) all_nil)) all_nil) (all_cons (PySem.W.mg_none_of X G b_tuple) (all_cons (PySem.W.mg_none_of X G b_range) all_nil)) all_nil all_nil all_nil all_nil all_nil all_nil) tr__law_star does__law_star
  have P__law_star_0 : BindsK fd__law_star ["_law_deal_here", "_law_centre", "_law_most", "_law_each"] 4 [] := D__law_star.binds (fun doc pm an cd ct us ws hu hw => match us, ws, hu, hw with | [_, _, _, _], [], _, _ => ⟨by kernel_rfl, by kernel_rfl⟩)
  obtain ⟨f__law_wave, fd__law_wave, D__law_wave⟩ := d__law_wave
  have F__law_wave : ∀ base, FnG P w K mg base 2 f__law_wave fd__law_wave ["_law_deal_here", "_law_many"] c__law_wave := fun base => D__law_wave.fnG sc__law_wave (tab (G := G__law_wave) (all_cons ((D__law_any).entry X G (by decide) (F__law_any base) (all_cons (P__law_any_0) all_nil)) all_nil) (all_cons (PySem.W.mg_none_of X G b_tuple) (all_cons (PySem.W.mg_none_of X G b_range) all_nil)) all_nil all_nil all_nil all_nil all_nil all_nil) tr__law_wave does__law_wave
  have P__law_wave_0 : BindsK fd__law_wave ["_law_deal_here", "_law_many"] 2 [] := D__law_wave.binds (fun doc pm an cd ct us ws hu hw => match us, ws, hu, hw with | [_, _], [], _, _ => ⟨by kernel_rfl, by kernel_rfl⟩)
  obtain ⟨f__law_more, fd__law_more, D__law_more⟩ := d__law_more
  have F__law_more : ∀ base, FnG P w K mg base 2 f__law_more fd__law_more ["_law_deal_here", "_law_ring_here"] c__law_more := fun base => D__law_more.fnG sc__law_more (tab (G := G__law_more) (all_cons ((D__law_any).entry X G (by decide) (F__law_any base) (all_cons (P__law_any_0) all_nil)) all_nil) (all_cons (PySem.W.mg_none_of X G b_tuple) (all_cons (PySem.W.mg_none_of X G b_len) (all_cons (PySem.W.mg_none_of X G b_range) (all_cons (PySem.W.mg_none_of X G b_int) all_nil)))) all_nil all_nil all_nil all_nil all_nil all_nil) tr__law_more does__law_more
  have P__law_more_0 : BindsK fd__law_more ["_law_deal_here", "_law_ring_here"] 2 [] := D__law_more.binds (fun doc pm an cd ct us ws hu hw => match us, ws, hu, hw with | [_, _], [], _, _ => ⟨by kernel_rfl, by kernel_rfl⟩)
  obtain ⟨f_whole_crosses, fd_whole_crosses, D_whole_crosses⟩ := d_whole_crosses
  have F_whole_crosses : ∀ base, FnG P w K mg base 3 f_whole_crosses fd_whole_crosses ["a", "b", "c", "d"] c_whole_crosses := fun base => D_whole_crosses.fnG sc_whole_crosses (tab (G := G_whole_crosses) (all_cons ((D_whole_turn).entry X G (by decide) (F_whole_turn base) (all_cons (P_whole_turn_0) all_nil)) all_nil) all_nil all_nil all_nil all_nil all_nil all_nil all_nil) tr_whole_crosses does_whole_crosses
  have P_whole_crosses_0 : BindsK fd_whole_crosses ["a", "b", "c", "d"] 4 [] := D_whole_crosses.binds (fun doc pm an cd ct us ws hu hw => match us, ws, hu, hw with | [_, _, _, _], [], _, _ => ⟨by kernel_rfl, by kernel_rfl⟩)
  obtain ⟨f_turns_back, fd_turns_back, D_turns_back⟩ := d_turns_back
  have F_turns_back : ∀ base, FnG P w K mg base 3 f_turns_back fd_turns_back ["a", "b", "c"] c_turns_back := fun base => D_turns_back.fnG sc_turns_back (tab (G := G_turns_back) (all_cons ((D_whole_on).entry X G (by decide) (F_whole_on base) (all_cons (P_whole_on_0) all_nil)) (all_cons ((D_whole_area).entry X G (by decide) (F_whole_area base) (all_cons (P_whole_area_0) all_nil)) all_nil)) all_nil all_nil all_nil all_nil all_nil all_nil all_nil) tr_turns_back does_turns_back
  have P_turns_back_0 : BindsK fd_turns_back ["a", "b", "c"] 3 [] := D_turns_back.binds (fun doc pm an cd ct us ws hu hw => match us, ws, hu, hw with | [_, _, _], [], _, _ => ⟨by kernel_rfl, by kernel_rfl⟩)
  obtain ⟨f__law_map, fd__law_map, D__law_map⟩ := d__law_map
  have F__law_map : ∀ base, FnG P w K mg base 3 f__law_map fd__law_map ["_law_deal_here"] c__law_map := fun base => D__law_map.fnG sc__law_map (tab (G := G__law_map) (all_cons ((D__law_of).entry X G (by decide) (F__law_of base) (all_cons (P__law_of_0) all_nil)) (all_cons ((D__law_any).entry X G (by decide) (F__law_any base) (all_cons (P__law_any_0) all_nil)) all_nil)) all_nil all_nil all_nil all_nil all_nil all_nil all_nil) tr__law_map does__law_map
  have P__law_map_0 : BindsK fd__law_map ["_law_deal_here"] 1 [] := D__law_map.binds (fun doc pm an cd ct us ws hu hw => match us, ws, hu, hw with | [_], [], _, _ => ⟨by kernel_rfl, by kernel_rfl⟩)
  obtain ⟨f_sides_meet, fd_sides_meet, D_sides_meet⟩ := d_sides_meet
  have F_sides_meet : ∀ base, FnG P w K mg base 4 f_sides_meet fd_sides_meet ["one", "other"] c_sides_meet := fun base => D_sides_meet.fnG sc_sides_meet (tab (G := G_sides_meet) (all_cons ((D_whole_on).entry X G (by decide) (F_whole_on base) (all_cons (P_whole_on_0) all_nil)) (all_cons ((D_whole_crosses).entry X G (by decide) (F_whole_crosses base) (all_cons (P_whole_crosses_0) all_nil)) all_nil)) all_nil all_nil all_nil all_nil all_nil all_nil all_nil) tr_sides_meet does_sides_meet
  have P_sides_meet_0 : BindsK fd_sides_meet ["one", "other"] 2 [] := D_sides_meet.binds (fun doc pm an cd ct us ws hu hw => match us, ws, hu, hw with | [_, _], [], _, _ => ⟨by kernel_rfl, by kernel_rfl⟩)
  obtain ⟨f__law_ring, fd__law_ring, D__law_ring⟩ := d__law_ring
  have F__law_ring : ∀ base, FnG P w K mg base 4 f__law_ring fd__law_ring ["_law_deal_here"] c__law_ring := fun base => D__law_ring.fnG sc__law_ring (tab (G := G__law_ring) (all_cons ((D__law_more).entry X G (by decide) (F__law_more base) (all_cons (P__law_more_0) all_nil)) (all_cons ((D__law_put).entry X G (by decide) (F__law_put base) (all_cons (P__law_put_0) all_nil)) (all_cons ((D__law_map).entry X G (by decide) (F__law_map base) (all_cons (P__law_map_0) all_nil)) (all_cons ((D__law_any).entry X G (by decide) (F__law_any base) (all_cons (P__law_any_0) all_nil)) (all_cons ((D__law_star).entry X G (by decide) (F__law_star base) (all_cons (P__law_star_0) all_nil)) (all_cons ((D__law_wave).entry X G (by decide) (F__law_wave base) (all_cons (P__law_wave_0) all_nil)) all_nil)))))) all_nil all_nil all_nil all_nil all_nil all_nil all_nil) tr__law_ring does__law_ring
  have P__law_ring_0 : BindsK fd__law_ring ["_law_deal_here"] 1 [] := D__law_ring.binds (fun doc pm an cd ct us ws hu hw => match us, ws, hu, hw with | [_], [], _, _ => ⟨by kernel_rfl, by kernel_rfl⟩)
  obtain ⟨f_crosses_itself, fd_crosses_itself, D_crosses_itself⟩ := d_crosses_itself
  have F_crosses_itself : ∀ base, FnG P w K mg base 5 f_crosses_itself fd_crosses_itself ["ring"] c_crosses_itself := fun base => D_crosses_itself.fnG sc_crosses_itself (tab (G := G_crosses_itself) (all_cons ((D_sides_meet).entry X G (by decide) (F_sides_meet base) (all_cons (P_sides_meet_0) all_nil)) (all_cons ((D_turns_back).entry X G (by decide) (F_turns_back base) (all_cons (P_turns_back_0) all_nil)) (all_cons ((D_ring_sides).entry X G (by decide) (F_ring_sides base) (all_cons (P_ring_sides_0) all_nil)) all_nil))) (all_cons (PySem.W.mg_none_of X G b_range) (all_cons (PySem.W.mg_none_of X G b_len) all_nil)) all_nil all_nil all_nil all_nil all_nil all_nil) tr_crosses_itself does_crosses_itself
  have P_crosses_itself_0 : BindsK fd_crosses_itself ["ring"] 1 [] := D_crosses_itself.binds (fun doc pm an cd ct us ws hu hw => match us, ws, hu, hw with | [_], [], _, _ => ⟨by kernel_rfl, by kernel_rfl⟩)
  obtain ⟨f_ring_fault, fd_ring_fault, D_ring_fault⟩ := d_ring_fault
  have F_ring_fault : ∀ base, FnG P w K mg base 6 f_ring_fault fd_ring_fault ["value"] c_ring_fault := fun base => D_ring_fault.fnG sc_ring_fault (tab (G := G_ring_fault) (all_cons ((D_crosses_itself).entry X G (by decide) (F_crosses_itself base) (all_cons (P_crosses_itself_0) all_nil)) (all_cons ((D_is_corner).entry X G (by decide) (F_is_corner base) (all_cons (P_is_corner_0) all_nil)) all_nil)) (all_cons (PySem.W.mg_none_of X G b_len) (all_cons (PySem.W.mg_none_of X G b_enumerate) (all_cons (PySem.W.mg_none_of X G b_isinstance) (all_cons (PySem.W.mg_none_of X G b_tuple) all_nil)))) all_nil (all_cons (x_FEWEST.get X G) all_nil) all_nil all_nil all_nil all_nil) tr_ring_fault does_ring_fault
  have P_ring_fault_0 : BindsK fd_ring_fault ["value"] 1 [] := D_ring_fault.binds (fun doc pm an cd ct us ws hu hw => match us, ws, hu, hw with | [_], [], _, _ => ⟨by kernel_rfl, by kernel_rfl⟩)
  obtain ⟨f_is_ring, fd_is_ring, D_is_ring⟩ := d_is_ring
  have F_is_ring : ∀ base, FnG P w K mg base 7 f_is_ring fd_is_ring ["value"] c_is_ring := fun base => D_is_ring.fnG sc_is_ring (tab (G := G_is_ring) (all_cons ((D_ring_fault).entry X G (by decide) (F_ring_fault base) (all_cons (P_ring_fault_0) all_nil)) all_nil) all_nil all_nil all_nil all_nil all_nil all_nil all_nil) tr_is_ring does_is_ring
  have P_is_ring_0 : BindsK fd_is_ring ["value"] 1 [] := D_is_ring.binds (fun doc pm an cd ct us ws hu hw => match us, ws, hu, hw with | [_], [], _, _ => ⟨by kernel_rfl, by kernel_rfl⟩)
  obtain ⟨f_law, fd_law, D_law⟩ := d_law
  have F_law : ∀ base, FnG P w K mg base 8 f_law fd_law ["_law_script"] c_law := fun base => D_law.fnG sc_law (tab (G := G_law) (all_cons ((D_ring_area).entry X G (by decide) (F_ring_area base) (all_cons (P_ring_area_0) (all_cons (P_ring_area_1) all_nil))) (all_cons ((D_straightened).entry X G (by decide) (F_straightened base) (all_cons (P_straightened_0) (all_cons (P_straightened_1) all_nil))) (all_cons ((D__law_straight).entry X G (by decide) (F__law_straight base) (all_cons (P__law_straight_0) all_nil)) (all_cons ((D_is_ring).entry X G (by decide) (F_is_ring base) (all_cons (P_is_ring_0) all_nil)) (all_cons ((D_begun).entry X G (by decide) (F_begun base) (all_cons (P_begun_1) (all_cons (P_begun_0) all_nil))) (all_cons ((D__law_any).entry X G (by decide) (F__law_any base) (all_cons (P__law_any_0) all_nil)) (all_cons ((D_turned_ring).entry X G (by decide) (F_turned_ring base) (all_cons (P_turned_ring_0) (all_cons (P_turned_ring_1) all_nil))) (all_cons ((D__law_area).entry X G (by decide) (F__law_area base) (all_cons (P__law_area_0) all_nil)) (all_cons ((D__law_ring).entry X G (by decide) (F__law_ring base) (all_cons (P__law_ring_0) all_nil)) (all_cons ((D__law_deal).entry X G (by decide) (F__law_deal base) (all_cons (P__law_deal_0) all_nil)) all_nil)))))))))) (all_cons (PySem.W.mg_none_of X G b_range) (all_cons (PySem.W.mg_none_of X G b_repr) (all_cons (PySem.W.mg_none_of X G b_len) all_nil))) all_nil all_nil all_nil all_nil all_nil all_nil) tr_law does_law
  have e := hm.symm.trans (D_law.gl X G)
  cases e
  have B : BindsK fd_law ["_law_script"] 1 [] := D_law.binds (fun doc pm an cd ct us ws hu hw => match us, ws, hu, hw with | [_], [], _, _ => ⟨by kernel_rfl, by kernel_rfl⟩)
  exact ⟨fd_law, fun s u => .of_eq (B [u] [] rfl rfl).1, fun base _ _ => F_law base⟩
end K
open PySem PySem.W PySem.Calls PyProof.Rows
theorem PySem.Challenge.cw_leastfield_k10_whole_areas_of_rings_holds : PySem.Challenge.rw_leastfield_k10_whole_areas_of_rings.Holds := by
  w_on; o_law; k_head; (case hw => w_witness2)
  k_fill
  refine PL.walk_G (l := PySem.Challenge.rw_leastfield_k10_whole_areas_of_rings) (k := 8) (x := "_law_script") rfl (by kernel_rfl) ⟨⟨rfl, by decide, by decide⟩, rfl⟩ (fun w h Y => PySem.W.kIn_of Y) ?F
  intro w mg fa h KX G hmg
  refine K.facts KX G hmg ?d_is_integer ?d_is_tuple_of ?d_whole_area ?d_ring_sides ?d_turned_ring ?d_begun ?d__law_deal ?d__law_any ?d__law_put ?d__law_area ?d__law_straight ?d_whole_turn ?d_whole_on ?d_is_corner ?d_ring_area ?d_straightened ?d__law_of ?d__law_star ?d__law_wave ?d__law_more ?d_whole_crosses ?d_turns_back ?d__law_map ?d_sides_meet ?d__law_ring ?d_crosses_itself ?d_ring_fault ?d_is_ring ?d_law ?b_isinstance ?b_bool ?b_int ?b_len ?b_tuple ?b_range ?b_abs ?b_min ?b_sum ?b_enumerate ?b_repr ?x_FARTHEST ?x_FEWEST
  (case d_is_integer => exact PL.defE (by k_is) (by k_is) (by k_is) (by k_is))
  (case d_is_tuple_of => exact PL.defE (by k_is) (by k_is) (by k_is) (by k_is))
  (case d_whole_area => exact PL.defE (by k_is) (by k_is) (by k_is) (by k_is))
  (case d_ring_sides => exact PL.defE (by k_is) (by k_is) (by k_is) (by k_is))
  (case d_turned_ring => exact PL.defE (by k_is) (by k_is) (by k_is) (by k_is))
  (case d_begun => exact PL.defE (by k_is) (by k_is) (by k_is) (by k_is))
  (case d__law_deal => exact PL.defE (by k_is) (by k_is) (by k_is) (by k_is))
  (case d__law_any => exact PL.defE (by k_is) (by k_is) (by k_is) (by k_is))
  (case d__law_put => exact PL.defE (by k_is) (by k_is) (by k_is) (by k_is))
  (case d__law_area => exact PL.defE (by k_is) (by k_is) (by k_is) (by k_is))
  (case d__law_straight => exact PL.defE (by k_is) (by k_is) (by k_is) (by k_is))
  (case d_whole_turn => exact PL.defE (by k_is) (by k_is) (by k_is) (by k_is))
  (case d_whole_on => exact PL.defE (by k_is) (by k_is) (by k_is) (by k_is))
  (case d_is_corner => exact PL.defE (by k_is) (by k_is) (by k_is) (by k_is))
  (case d_ring_area => exact PL.defE (by k_is) (by k_is) (by k_is) (by k_is))
  (case d_straightened => exact PL.defE (by k_is) (by k_is) (by k_is) (by k_is))
  (case d__law_of => exact PL.defE (by k_is) (by k_is) (by k_is) (by k_is))
  (case d__law_star => exact PL.defE (by k_is) (by k_is) (by k_is) (by k_is))
  (case d__law_wave => exact PL.defE (by k_is) (by k_is) (by k_is) (by k_is))
  (case d__law_more => exact PL.defE (by k_is) (by k_is) (by k_is) (by k_is))
  (case d_whole_crosses => exact PL.defE (by k_is) (by k_is) (by k_is) (by k_is))
  (case d_turns_back => exact PL.defE (by k_is) (by k_is) (by k_is) (by k_is))
  (case d__law_map => exact PL.defE (by k_is) (by k_is) (by k_is) (by k_is))
  (case d_sides_meet => exact PL.defE (by k_is) (by k_is) (by k_is) (by k_is))
  (case d__law_ring => exact PL.defE (by k_is) (by k_is) (by k_is) (by k_is))
  (case d_crosses_itself => exact PL.defE (by k_is) (by k_is) (by k_is) (by k_is))
  (case d_ring_fault => exact PL.defE (by k_is) (by k_is) (by k_is) (by k_is))
  (case d_is_ring => exact PL.defE (by k_is) (by k_is) (by k_is) (by k_is))
  (case d_law => exact PL.defE (by k_is) (by k_is) (by k_is) (by k_is))
  (case b_isinstance => k_is)
  (case b_bool => k_is)
  (case b_int => k_is)
  (case b_len => k_is)
  (case b_tuple => k_is)
  (case b_range => k_is)
  (case b_abs => k_is)
  (case b_min => k_is)
  (case b_sum => k_is)
  (case b_enumerate => k_is)
  (case b_repr => k_is)
  (case x_FARTHEST => first | exact PL.cst_i (by k_is) | exact PL.cst_s (by k_is) | exact PL.cst_ii (by k_is) (by k_is))
  (case x_FEWEST => first | exact PL.cst_i (by k_is) | exact PL.cst_s (by k_is) | exact PL.cst_ii (by k_is) (by k_is))
