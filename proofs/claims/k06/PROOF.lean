import PyProof.Rows.All
import Wide.All
import OpenK.AllK
import Wide.FinOn
import KE.KStateDown
import HandS.ForMost
import HandS.ForExc
import HandS.Defaults
import HandS.Wide
import HandS.WideBits
import HandS.IsInst
import HandS.Conv
import HandS.Flow
import HandS.Zip
import HandS.TupAny
import KE.KExcSuper
import HandS.ExcInit
import HandS.TupLe
import HandS.Style
import HandS.HeadEnd
import HandS.RaiseMore
import KE.KExcIs
import HandS.Text
import HandS.HeadHook1
import HandS.Head0
import HandS.Head1
import HandS.Head2
import HandS.HeadHook2
import PySem.Challenge.RW_trustsorted_k06_errors_and_what_they_kee
set_option Elab.async false
set_option linter.all false
set_option maxRecDepth 100000
set_option maxHeartbeats 0
section
/-! D1: plain data D over the hand layer's values; the relation, the judgements. -/
namespace DL
open PySem PySem.Spec PyProof.Rows L2

abbrev St := L2.St
/-- a value: tuples by what they hold, changeable things by their address -/
inductive D where
  | non | bl (b : Bool) | int (i : Int) | str (x : Str) | tup (xs : List D) | ref (a : Addr) | ty (n : String)
  /-- a list that never changes: the script, a module's own -/
  | fls (xs : List D)
  /-- an error of the program's own, held: its class, its value -/
  | exc (C : Addr) (v : D)

/-- a list that is locked, or written -/
def SqF (K : PySem.W.Frag) (H : Hp) (a : Addr) (xs : List V) : Prop :=
  (∃ o, H a = some (.frz o (.lst xs))) ∨ ∃ (o : Obj) (its : Array Value) (n : Nat), K.lookup a = some o ∧ o.cls = .type "list" ∧ o.dict = none ∧ o.data = .seq its n ∧ its.size ≤ sizeLine ∧ Vals xs its.toList
theorem SqF.sql {K : PySem.W.Frag} {H : Hp} {a : Addr} {xs : List V} (h : SqF K H a xs) : SqL K H a xs := h.elim (fun ⟨o, h⟩ => .inl (.inr ⟨o, h⟩)) .inr
/-- an own error's class -/
structure OrdC (K : PySem.W.Frag) (fI D C : Addr) : Prop where
  ini : PySem.W.excInitIn K C HandSPX.veTail "ValueError.__new__" = true
  fn : PySem.W.findIn K (.ref C) "__init__" = some (some (.ref fI))
  sup : PySem.W.ks_superIn K C D "__init__" = some (some (.builtin "ValueError.__init__"))
  ve : PySem.W.subIn K (.ref C) (.type "ValueError") = some true
  mro : PySem.W.mroIn K C (.ref D) = some true
  sa : PySem.W.findIn K (.ref C) "__setattr__" = some (some (.builtin "object.__setattr__"))
  cd : ∃ cd, PySem.W.clsIn K C = some cd ∧ HandSPX.refsVE cd.mro = true ∧ cd.hasDict = true
  nov : PySem.W.findIn K (.ref C) "value" = some none
  keep : PySem.W.keepIn K (.ref C) = true
  ga : PySem.W.findIn K (.ref C) "__getattribute__" = some (some (.builtin "BaseException.__getattribute__"))
  gg : PySem.W.findIn K (.ref C) "__getattr__" = some none
  be : PySem.W.subIn K (.ref C) (.type "BaseException") = some true
  ty : PySem.W.typeIn K (.ref C) = some (.type "type")
  cl : PySem.W.findIn K (.ref C) "__class__" = some (some (.builtin "object.__class__"))
  ob : PySem.W.mroIn K C (.type "object") = some true
  sp : PySem.W.specialIn K (.builtin "object.__class__") "__get__" = some (some (.builtin "getset_descriptor.__get__"))
  tk : PySem.W.takesIn K (.builtin "object.__class__") = some true
/-- an error of the program's own, held at e, its dict at dx, its value u -/
structure ExAt (H : Hp) (e dx : Addr) (oe od : Obj) (C : Addr) (u : Value) : Prop where
  e : H e = some (.frz oe (.ext fun _ => True))
  d : H dx = some (.frz od (.ext fun _ => True))
  cls : oe.cls = .ref C
  dict : oe.dict = some dx
  data : ∃ vs, oe.data = .fields vs
  look : PySem.W.lookIn "value" od = some (some u)
mutual
def Den (K : PySem.W.Frag) (H : Hp) : D → V → Prop
  | .non, v => v = .non
  | .bl b, v => v = .bl b
  | .int i, v => v = .int i
  | .str x, v => v = .str x
  | .ref a, v => v = .ref a
  | .ty n, v => v = .ty n
  | .tup ds, v => ∃ a xs, v = .ref a ∧ SqT K H a xs ∧ DenL K H ds xs
  | .fls ds, v => ∃ a xs, v = .ref a ∧ SqF K H a xs ∧ DenL K H ds xs
  | .exc C d, v => ∃ e dx oe od u y, v = .ref e ∧ ExAt H e dx oe od C u ∧ (∃ fI D, OrdC K fI D C) ∧ RelV y u ∧ Den K H d y
def DenL (K : PySem.W.Frag) (H : Hp) : List D → List V → Prop
  | [], xs => xs = []
  | d :: ds, xs => ∃ v vs, xs = v :: vs ∧ Den K H d v ∧ DenL K H ds vs
end

/-- what stays: tuples and locked things -/
structure TK (H H' : Hp) : Prop where
  tups : ∀ b xs, H b = some (.tup xs) → H' b = some (.tup xs)
  frzs : ∀ b o u, H b = some (.frz o u) → H' b = some (.frz o u)
theorem TK.refl {H : Hp} : TK H H := ⟨fun _ _ h => h, fun _ _ _ h => h⟩
theorem TK.trans {H H1 H2 : Hp} (a : TK H H1) (b : TK H1 H2) : TK H H2 := ⟨fun _ _ h => b.tups _ _ (a.tups _ _ h), fun _ _ _ h => b.frzs _ _ _ (a.frzs _ _ _ h)⟩
theorem TK.new {H : Hp} {p : Addr} {o : HO} (h : H p = none) : TK H (upd H p o) :=
  ⟨fun b xs e => by rw [upd_ne (ne_of_none e h)]; exact e, fun b x u e => by rw [upd_ne (ne_of_none e h)]; exact e⟩
theorem TK.mut {H : Hp} {p : Addr} {o u : HO} (h : H p = some u) (m : Mut (some u)) : TK H (upd H p o) :=
  ⟨fun b xs e => by
    have : b ≠ p := fun z => by subst z; rw [h] at e; cases e; exact m
    rw [upd_ne this]; exact e, fun b x w e => by
    have : b ≠ p := fun z => by subst z; rw [h] at e; cases e; exact m
    rw [upd_ne this]; exact e⟩
theorem SqT.keep {K : PySem.W.Frag} {H H' : Hp} {a : Addr} {xs : List V} (t : TK H H') (h : SqT K H a xs) : SqT K H' a xs := by
  rcases h with (h | ⟨o, h⟩) | h
  · exact .inl (.inl (t.tups _ _ h))
  · exact .inl (.inr ⟨o, t.frzs _ _ _ h⟩)
  · exact .inr h

theorem SqF.keep {K : PySem.W.Frag} {H H' : Hp} {a : Addr} {xs : List V} (t : TK H H') (h : SqF K H a xs) : SqF K H' a xs := h.elim (fun ⟨o, h⟩ => .inl ⟨o, t.frzs _ _ _ h⟩) .inr

theorem ExAt.keep {H H' : Hp} {e dx C : Addr} {oe od : Obj} {u : Value} (t : TK H H') (h : ExAt H e dx oe od C u) : ExAt H' e dx oe od C u := ⟨t.frzs _ _ _ h.e, t.frzs _ _ _ h.d, h.cls, h.dict, h.data, h.look⟩

section
variable {K : PySem.W.Frag} {H H' : Hp}
mutual
theorem Den.keep (t : TK H H') : ∀ (d : D) {v : V}, Den K H d v → Den K H' d v
  | .non, _, h => h
  | .bl _, _, h => h
  | .int _, _, h => h
  | .str _, _, h => h
  | .ref _, _, h => h
  | .ty _, _, h => h
  | .tup ds, _, ⟨a, xs, e, hs, hd⟩ => ⟨a, xs, e, SqT.keep t hs, DenL.keep t ds hd⟩
  | .fls ds, _, ⟨a, xs, e, hs, hd⟩ => ⟨a, xs, e, SqF.keep t hs, DenL.keep t ds hd⟩
  | .exc C d, _, ⟨e, dx, oe, od, u, y, h1, h2, h3, h4, h5⟩ => ⟨e, dx, oe, od, u, y, h1, h2.keep t, h3, h4, Den.keep t d h5⟩
theorem DenL.keep (t : TK H H') : ∀ (ds : List D) {xs : List V}, DenL K H ds xs → DenL K H' ds xs
  | [], _, h => h
  | d :: ds, _, ⟨v, vs, e, h1, h2⟩ => ⟨v, vs, e, Den.keep t d h1, DenL.keep t ds h2⟩
end
theorem DenL.length : ∀ {ds : List D} {xs : List V}, DenL K H ds xs → ds.length = xs.length
  | [], _, h => by cases h; rfl
  | d :: ds, _, ⟨v, vs, e, _, h2⟩ => by subst e; rw [List.length_cons, List.length_cons, DenL.length h2]
theorem DenL.get : ∀ {ds : List D} {xs : List V} {i : Nat} {d : D}, DenL K H ds xs → ds[i]? = some d → ∃ v, xs[i]? = some v ∧ Den K H d v
  | [], _, _, _, _, h => by simp at h
  | d :: ds, _, 0, d', ⟨v, vs, e, h1, h2⟩, h => by
    simp at h; subst h; subst e; exact ⟨v, rfl, h1⟩
  | d :: ds, _, i + 1, d', ⟨v, vs, e, h1, h2⟩, h => by
    subst e
    obtain ⟨w, a, b⟩ := DenL.get (i := i) h2 (by simpa using h)
    exact ⟨w, by simpa using a, b⟩
theorem DenL.append : ∀ {ds es : List D} {xs ys : List V}, DenL K H ds xs → DenL K H es ys → DenL K H (ds ++ es) (xs ++ ys)
  | [], _, _, _, h, h' => by cases h; exact h'
  | d :: ds, _, _, _, ⟨v, vs, e, h1, h2⟩, h' => by subst e; exact ⟨v, vs ++ _, rfl, h1, DenL.append h2 h'⟩
theorem DenL.take : ∀ (n : Nat) {ds : List D} {xs : List V}, DenL K H ds xs → DenL K H (ds.take n) (xs.take n)
  | 0, _, _, _ => rfl
  | n + 1, [], _, h => by cases h; rfl
  | n + 1, d :: ds, _, ⟨v, vs, e, h1, h2⟩ => by subst e; exact ⟨v, vs.take n, rfl, h1, DenL.take n h2⟩
theorem DenL.drop : ∀ (n : Nat) {ds : List D} {xs : List V}, DenL K H ds xs → DenL K H (ds.drop n) (xs.drop n)
  | 0, _, _, h => h
  | n + 1, [], _, h => by cases h; rfl
  | n + 1, d :: ds, _, ⟨v, vs, e, h1, h2⟩ => by subst e; exact DenL.drop n h2
theorem DenL.set : ∀ (i : Nat) {ds : List D} {xs : List V} {d : D} {v : V}, DenL K H ds xs → Den K H d v → DenL K H (ds.set i d) (xs.set i v)
  | _, [], _, _, _, h, _ => by cases h; rfl
  | 0, _ :: ds, _, _, _, ⟨w, vs, e, _, h2⟩, h => by subst e; exact ⟨_, vs, rfl, h, h2⟩
  | i + 1, _ :: ds, _, _, _, ⟨w, vs, e, h1, h2⟩, h => by subst e; exact ⟨w, vs.set i _, rfl, h1, DenL.set i h2 h⟩
theorem DenL.one {d : D} {v : V} (h : Den K H d v) : DenL K H [d] [v] := ⟨v, [], rfl, h, rfl⟩
theorem DenL.cons {d : D} {v : V} {ds : List D} {vs : List V} (h : Den K H d v) (t : DenL K H ds vs) : DenL K H (d :: ds) (v :: vs) := ⟨v, vs, rfl, h, t⟩
theorem DenL.reverse : ∀ {ds : List D} {xs : List V}, DenL K H ds xs → DenL K H ds.reverse xs.reverse
  | [], _, h => by cases h; rfl
  | d :: ds, _, ⟨v, vs, e, h1, h2⟩ => by
    subst e
    rw [List.reverse_cons, List.reverse_cons]
    exact DenL.append (DenL.reverse h2) (DenL.one h1)
theorem DenL.eraseIdx : ∀ (i : Nat) {ds : List D} {xs : List V}, DenL K H ds xs → DenL K H (ds.eraseIdx i) (xs.eraseIdx i)
  | _, [], _, h => by cases h; rfl
  | 0, _ :: ds, _, ⟨w, vs, e, _, h2⟩ => by subst e; exact h2
  | i + 1, _ :: ds, _, ⟨w, vs, e, h1, h2⟩ => by subst e; exact ⟨w, vs.eraseIdx i, rfl, h1, DenL.eraseIdx i h2⟩
end

/-- what stands at an address -/
inductive OD where
  | lst (xs : List D)
  | dk (kvs : List (Key × D))
  | dt (kvs : List (List D × D))
  | ins (C : Addr) (fs : List (Str × D))
  | exc (C : Addr) (v : D)
abbrev Gp := Addr → Option OD
def up (G : Gp) (a : Addr) (o : OD) : Gp := fun b => if b = a then some o else G b
theorem up_same {G : Gp} {a : Addr} {o : OD} : up G a o a = some o := by unfold up; rw [if_pos rfl]
theorem up_ne {G : Gp} {a b : Addr} {o : OD} (h : b ≠ a) : up G a o b = G b := by unfold up; rw [if_neg h]

def DenKV (K : PySem.W.Frag) (H : Hp) {κ : Type} : List (κ × D) → List (κ × V) → Prop
  | [], xs => xs = []
  | (k, d) :: r, xs => ∃ v vs, xs = (k, v) :: vs ∧ Den K H d v ∧ DenKV K H r vs
theorem DenKV.keep {K : PySem.W.Frag} {H H' : Hp} {κ : Type} (t : TK H H') : ∀ {r : List (κ × D)} {xs : List (κ × V)}, DenKV K H r xs → DenKV K H' r xs
  | [], _, h => h
  | (k, d) :: r, _, ⟨v, vs, e, h1, h2⟩ => ⟨v, vs, e, Den.keep t d h1, DenKV.keep t h2⟩

/-- an exception made by C(v): its own dict at dx -/
def ExcAt (K : PySem.W.Frag) (H : Hp) (a C : Addr) (v : V) : Prop :=
  ∃ dx t, H a = some (.ext fun h => h.get? a = some ({ cls := .ref C, dict := some dx, data := .fields #[.ref t, .none, .none, .none, .bool false, .none] } : Obj)) ∧ H dx = some (.xd [("value", v)]) ∧ SqT K H t [v]

def RO (K : PySem.W.Frag) (H : Hp) (a : Addr) : OD → Prop
  | .lst ds => ∃ xs, H a = some (.lst xs) ∧ DenL K H ds xs
  | .dk kvs => ∃ xs, H a = some (.dK xs) ∧ DenKV K H kvs xs
  | .dt _ => False
  | .ins C fs => ∃ dx xs, H a = some (.ins C dx xs) ∧ DenKV K H fs xs
  | .exc _ _ => False
theorem RO.keep {K : PySem.W.Frag} {H H' : Hp} {a : Addr} {o : OD} (t : TK H H') (e : ∀ u, Mut (some u) → H a = some u → H' a = some u) (h : RO K H a o) : RO K H' a o := by
  cases o with
  | lst ds => obtain ⟨xs, h1, h2⟩ := h; exact ⟨xs, e _ trivial h1, h2.keep t⟩
  | dk kvs => obtain ⟨xs, h1, h2⟩ := h; exact ⟨xs, e _ trivial h1, h2.keep t⟩
  | dt _ => exact h
  | ins C fs => obtain ⟨dx, xs, h1, h2⟩ := h; exact ⟨dx, xs, e _ trivial h1, h2.keep t⟩
  | exc _ _ => exact h
/-- the store is held -/
def RG (K : PySem.W.Frag) (G : Gp) (H : Hp) : Prop := ∀ a o, G a = some o → RO K H a o
theorem RG.free {K : PySem.W.Frag} {G : Gp} {H : Hp} {p : Addr} (r : RG K G H) (h : H p = none) : G p = none := by
  cases e : G p with
  | none => rfl
  | some o =>
    have q := r p o e
    cases o with
    | lst ds => obtain ⟨xs, h1, _⟩ := q; rw [h] at h1; cases h1
      | dk kvs => obtain ⟨xs, h1, _⟩ := q; rw [h] at h1; cases h1
    | dt _ => exact q.elim
    | ins C fs => obtain ⟨dx, xs, h1, _⟩ := q; rw [h] at h1; cases h1
    | exc _ _ => exact q.elim
theorem RG.new {K : PySem.W.Frag} {G : Gp} {H : Hp} {p : Addr} {o : OD} {u : HO} (r : RG K G H) (h : H p = none) (q : RO K (upd H p u) p o) : RG K (up G p o) (upd H p u) := fun a x e => by
  by_cases ha : a = p
  · subst ha; rw [up_same] at e; cases e; exact q
  · rw [up_ne ha] at e
    exact (r a x e).keep (TK.new h) fun w _ hw => by rw [upd_ne ha]; exact hw
theorem RG.put {K : PySem.W.Frag} {G : Gp} {H : Hp} {p : Addr} {o : OD} {u u' : HO} (r : RG K G H) (h : H p = some u') (m : Mut (some u')) (q : RO K (upd H p u) p o) : RG K (up G p o) (upd H p u) := fun a x e => by
  by_cases ha : a = p
  · subst ha; rw [up_same] at e; cases e; exact q
  · rw [up_ne ha] at e
    exact (r a x e).keep (TK.mut h m) fun w _ hw => by rw [upd_ne ha]; exact hw
theorem RG.keep {K : PySem.W.Frag} {G : Gp} {H H' : Hp} (r : RG K G H) (t : TK H H') (e : ∀ a u, Mut (some u) → H a = some u → H' a = some u) : RG K G H' := fun a o h => (r a o h).keep t (e a)
/-- something new that the store does not tell of -/
theorem RG.aside {K : PySem.W.Frag} {G : Gp} {H : Hp} {p : Addr} {u : HO} (r : RG K G H) (h : H p = none) : RG K G (upd H p u) :=
  r.keep (TK.new h) fun a w _ hw => by rw [upd_ne (ne_of_none hw h)]; exact hw

abbrev SD := List (Option D)
/-- slots and store -/
structure RS (K : PySem.W.Frag) (σd : SD) (G : Gp) (σ : St) (H : Hp) : Prop where
  len : σ.length = σd.length
  sl : ∀ (i : Nat) (d : D), σd[i]? = some (some d) → ∃ v, σ[i]? = some (some v) ∧ Den K H d v
  ob : RG K G H
theorem RS.to {K : PySem.W.Frag} {σd : SD} {G G' : Gp} {σ : St} {H H' : Hp} (r : RS K σd G σ H) (t : TK H H') (o : RG K G' H') : RS K σd G' σ H' :=
  ⟨r.len, fun i d e => let ⟨v, a, b⟩ := r.sl i d e; ⟨v, a, b.keep t⟩, o⟩
theorem RS.set {K : PySem.W.Frag} {σd : SD} {G : Gp} {σ : St} {H : Hp} {d : D} {v : V} (r : RS K σd G σ H) (i : Nat) (h : Den K H d v) : RS K (σd.set i (some d)) G (σ.set i (some v)) H :=
  ⟨by rw [List.length_set, List.length_set, r.len], fun j e hj => by
    by_cases hij : i = j
    · subst hij
      have hl : i < σd.length := by
        have := (List.getElem?_eq_some_iff.mp hj).1
        rwa [List.length_set] at this
      rw [List.getElem?_set_self hl] at hj
      cases hj
      exact ⟨v, List.getElem?_set_self (by rw [r.len]; exact hl), h⟩
    · rw [List.getElem?_set_ne hij] at hj
      obtain ⟨w, a, b⟩ := r.sl j e hj
      exact ⟨w, by rw [List.getElem?_set_ne hij]; exact a, b⟩, r.ob⟩

/-- an exception that leaves: its class, its value, the slots, the store -/
abbrev XD := Addr → D → SD → Gp → Prop
def WD (K : PySem.W.Frag) (He : Hp) (E : XD) : WX := fun cls d σ H => TK He H ∧ ∃ C v dx vv σd G, cls = .ref C ∧ d = some dx ∧ H dx = some (.xd [("value", vv)]) ∧ Den K H v vv ∧ RS K σd G σ H ∧ E C v σd G
abbrev noE : XD := fun _ _ _ _ => False

abbrev TED := SD → Gp → (D → Gp → Prop) → XD → Prop
abbrev TTD := SD → Gp → (Bool → Gp → Prop) → XD → Prop
abbrev TAD := SD → Gp → (List D → Gp → Prop) → XD → Prop
structure EndsD where
  nx : SD → Gp → Prop
  rt : D → Gp → Prop
  bk : SD → Gp → Prop := fun _ _ => False
  ct : SD → Gp → Prop := fun _ _ => False
  ex : XD := noE
abbrev TSD := EndsD → SD → Gp → Prop

section
variable (X : Cx)
def PDe (pins : List (Addr × Obj)) (σ : St) (H : Hp) (σd : SD) (Q : D → Gp → Prop) (u : Value) (s' : Shared) : Prop :=
  ∃ v H' d G', Inv X pins σ H' s' ∧ RelV v u ∧ Den X.K H' d v ∧ TK H H' ∧ RS X.K σd G' σ H' ∧ Q d G'
structure DE (e : Expr) (t : TED) : Prop where
  run : ∀ (pins : List (Addr × Obj)) (s : Shared) (σ : St) (H : Hp) (σd : SD) (G : Gp) (He : Hp) (E : XD) (Q : D → Gp → Prop), Inv X pins σ H s → RS X.K σd G σ H → TK He H → Takes X (WD X.K He E) → t σd G Q E →
    wpAny (model X.prog X.w) X.A (eval e X.env) (PDe X pins σ H σd Q) X.xe s
structure DT (e : Expr) (t : TTD) : Prop where
  run : ∀ (pins : List (Addr × Obj)) (s : Shared) (σ : St) (H : Hp) (σd : SD) (G : Gp) (He : Hp) (E : XD) (Q : Bool → Gp → Prop), Inv X pins σ H s → RS X.K σd G σ H → TK He H → Takes X (WD X.K He E) → t σd G Q E →
    wpAny (model X.prog X.w) X.A (isTrue e X.env (eval e X.env)) (fun b s' => ∃ H' G', Inv X pins σ H' s' ∧ TK H H' ∧ RS X.K σd G' σ H' ∧ Q b G') X.xe s
structure DA (es : List Expr) (t : TAD) : Prop where
  run : ∀ (pos : Pos) (pins : List (Addr × Obj)) (s : Shared) (σ : St) (H : Hp) (σd : SD) (G : Gp) (He : Hp) (E : XD) (Q : List D → Gp → Prop), Inv X pins σ H s → RS X.K σd G σ H → TK He H → Takes X (WD X.K He E) → t σd G Q E →
    wpAny (model X.prog X.w) X.A (spliced (backTo pos (starEach es X.env))) (fun us s' => ∃ vs H' ds G', Inv X pins σ H' s' ∧ Vals vs us ∧ DenL X.K H' ds vs ∧ TK H H' ∧ RS X.K σd G' σ H' ∧ Q ds G') X.xe s
def SPd (pins : List (Addr × Obj)) (H : Hp) (D : EndsD) (f : Flow) (s' : Shared) : Prop :=
  match f with
  | .next => ∃ σ' H' σd' G', Inv X pins σ' H' s' ∧ TK H H' ∧ RS X.K σd' G' σ' H' ∧ D.nx σd' G'
  | .brk => ∃ σ' H' σd' G', Inv X pins σ' H' s' ∧ TK H H' ∧ RS X.K σd' G' σ' H' ∧ D.bk σd' G'
  | .cont => ∃ σ' H' σd' G', Inv X pins σ' H' s' ∧ TK H H' ∧ RS X.K σd' G' σ' H' ∧ D.ct σd' G'
  | .ret u => ∃ v σ' H' d G', Inv X pins σ' H' s' ∧ RelV v u ∧ Den X.K H' d v ∧ TK H H' ∧ RG X.K G' H' ∧ D.rt d G'
structure DS (st : Stmt) (t : TSD) : Prop where
  run : ∀ (pins : List (Addr × Obj)) (s : Shared) (σ : St) (H : Hp) (σd : SD) (G : Gp) (He : Hp) (D : EndsD), Inv X pins σ H s → RS X.K σd G σ H → TK He H → Takes X (WD X.K He D.ex) → t D σd G →
    wpAny (model X.prog X.w) X.A (exec st X.env) (SPd X pins H D) X.xe s
structure DSs (st : List Stmt) (t : TSD) : Prop where
  run : ∀ (pins : List (Addr × Obj)) (s : Shared) (σ : St) (H : Hp) (σd : SD) (G : Gp) (He : Hp) (D : EndsD), Inv X pins σ H s → RS X.K σd G σ H → TK He H → Takes X (WD X.K He D.ex) → t D σd G →
    wpAny (model X.prog X.w) X.A (execs st X.env) (SPd X pins H D) X.xe s

/-! ### down to the hand layer's readings, and up -/
def dnE (t : TED) : TE := fun σ H Q => ∃ σd G He E Qd, RS X.K σd G σ H ∧ TK He H ∧ Takes X (WD X.K He E) ∧ t σd G Qd E ∧ ∀ v H' d G', Den X.K H' d v → TK H H' → RS X.K σd G' σ H' → Qd d G' → Q v H'
def dnT (t : TTD) : TT := fun σ H Q => ∃ σd G He E Qd, RS X.K σd G σ H ∧ TK He H ∧ Takes X (WD X.K He E) ∧ t σd G Qd E ∧ ∀ b H' G', TK H H' → RS X.K σd G' σ H' → Qd b G' → Q b H'
def dnA (t : TAD) : TA := fun σ H Q => ∃ σd G He E Qd, RS X.K σd G σ H ∧ TK He H ∧ Takes X (WD X.K He E) ∧ t σd G Qd E ∧ ∀ vs H' ds G', DenL X.K H' ds vs → TK H H' → RS X.K σd G' σ H' → Qd ds G' → Q vs H'
def dnS (t : TSD) : TS := fun D σ H => ∃ σd G He Dd, RS X.K σd G σ H ∧ TK He H ∧ Takes X (WD X.K He Dd.ex) ∧ t Dd σd G ∧
  (∀ σ' H' σd' G', TK H H' → RS X.K σd' G' σ' H' → Dd.nx σd' G' → D.nx σ' H') ∧ (∀ σ' H' σd' G', TK H H' → RS X.K σd' G' σ' H' → Dd.bk σd' G' → D.bk σ' H') ∧
  (∀ σ' H' σd' G', TK H H' → RS X.K σd' G' σ' H' → Dd.ct σd' G' → D.ct σ' H') ∧ (∀ v H' d G', Den X.K H' d v → TK H H' → RG X.K G' H' → Dd.rt d G' → D.rt v H')
end
section
variable {X : Cx} {e : Expr} {es : List Expr} {st : Stmt} {sts : List Stmt}
theorem DE.pe {t : TED} (h : DE X e t) : PE X e (dnE X t) := ⟨fun pins s σ H Q I ⟨σd, G, He, E, Qd, r, tk, tx, ht, hq⟩ =>
  thn (h.run pins s σ H σd G He E Qd I r tk tx ht) fun u s' ⟨v, H', d, G', I', rv, dn, tk', r', q⟩ => ⟨v, H', I', rv, hq v H' d G' dn tk' r' q⟩⟩
theorem DT.pt {t : TTD} (h : DT X e t) : PT X e (dnT X t) := ⟨fun pins s σ H Q I ⟨σd, G, He, E, Qd, r, tk, tx, ht, hq⟩ =>
  thn (h.run pins s σ H σd G He E Qd I r tk tx ht) fun b s' ⟨H', G', I', tk', r', q⟩ => ⟨H', I', hq b H' G' tk' r' q⟩⟩
theorem DA.pa {t : TAD} (h : DA X es t) : PA X es (dnA X t) := ⟨fun pos pins s σ H Q I ⟨σd, G, He, E, Qd, r, tk, tx, ht, hq⟩ =>
  thn (h.run pos pins s σ H σd G He E Qd I r tk tx ht) fun us s' ⟨vs, H', ds, G', I', rv, dn, tk', r', q⟩ => ⟨vs, H', I', rv, hq vs H' ds G' dn tk' r' q⟩⟩
theorem SPd.sp {pins : List (Addr × Obj)} {H : Hp} {Dd : EndsD} {D : Ends} {f : Flow} {s' : Shared} (h : SPd X pins H Dd f s')
    (h1 : ∀ σ' H' σd' G', TK H H' → RS X.K σd' G' σ' H' → Dd.nx σd' G' → D.nx σ' H') (h2 : ∀ σ' H' σd' G', TK H H' → RS X.K σd' G' σ' H' → Dd.bk σd' G' → D.bk σ' H')
    (h3 : ∀ σ' H' σd' G', TK H H' → RS X.K σd' G' σ' H' → Dd.ct σd' G' → D.ct σ' H') (h4 : ∀ v H' d G', Den X.K H' d v → TK H H' → RG X.K G' H' → Dd.rt d G' → D.rt v H') : SP X pins D f s' := by
  cases f with
  | next => obtain ⟨σ', H', σd', G', I', tk', r', q⟩ := h; exact ⟨σ', H', I', h1 _ _ _ _ tk' r' q⟩
  | brk => obtain ⟨σ', H', σd', G', I', tk', r', q⟩ := h; exact ⟨σ', H', I', h2 _ _ _ _ tk' r' q⟩
  | cont => obtain ⟨σ', H', σd', G', I', tk', r', q⟩ := h; exact ⟨σ', H', I', h3 _ _ _ _ tk' r' q⟩
  | ret u => obtain ⟨v, σ', H', d, G', I', rv, dn, tk', r', q⟩ := h; exact ⟨v, σ', H', I', rv, h4 _ _ _ _ dn tk' r' q⟩
theorem DS.ps {t : TSD} (h : DS X st t) : PS X st (dnS X t) := ⟨fun pins s σ H D I ⟨σd, G, He, Dd, r, tk, tx, ht, h1, h2, h3, h4⟩ =>
  thn (h.run pins s σ H σd G He Dd I r tk tx ht) fun f s' q => q.sp h1 h2 h3 h4⟩
theorem DSs.pss {t : TSD} (h : DSs X sts t) : PSs X sts (dnS X t) := ⟨fun pins s σ H D I ⟨σd, G, He, Dd, r, tk, tx, ht, h1, h2, h3, h4⟩ =>
  thn (h.run pins s σ H σd G He Dd I r tk tx ht) fun f s' q => q.sp h1 h2 h3 h4⟩
/-- up -/
theorem DE.of {t' : TE} {t : TED} (h : PE X e t') (f : ∀ (σ : St) (H : Hp) (σd : SD) (G : Gp) (He : Hp) (E : XD) (Q : D → Gp → Prop), RS X.K σd G σ H → TK He H → Takes X (WD X.K He E) → t σd G Q E →
    t' σ H fun v H' => ∃ d G', Den X.K H' d v ∧ TK H H' ∧ RS X.K σd G' σ H' ∧ Q d G') : DE X e t :=
  ⟨fun pins s σ H σd G He E Q I r tk tx ht => thn (h.run pins s σ H _ I (f σ H σd G He E Q r tk tx ht)) fun u s' ⟨v, H', I', rv, d, G', dn, tk', r', q⟩ => ⟨v, H', d, G', I', rv, dn, tk', r', q⟩⟩
theorem DT.of {t' : TT} {t : TTD} (h : PT X e t') (f : ∀ (σ : St) (H : Hp) (σd : SD) (G : Gp) (He : Hp) (E : XD) (Q : Bool → Gp → Prop), RS X.K σd G σ H → TK He H → Takes X (WD X.K He E) → t σd G Q E →
    t' σ H fun b H' => ∃ G', TK H H' ∧ RS X.K σd G' σ H' ∧ Q b G') : DT X e t :=
  ⟨fun pins s σ H σd G He E Q I r tk tx ht => thn (h.run pins s σ H _ I (f σ H σd G He E Q r tk tx ht)) fun b s' ⟨H', I', G', tk', r', q⟩ => ⟨H', G', I', tk', r', q⟩⟩
theorem DS.of {t' : TS} {t : TSD} (h : PS X st t') (f : ∀ (σ : St) (H : Hp) (σd : SD) (G : Gp) (He : Hp) (D : EndsD), RS X.K σd G σ H → TK He H → Takes X (WD X.K He D.ex) → t D σd G →
    t' ⟨fun σ' H' => ∃ σd' G', TK H H' ∧ RS X.K σd' G' σ' H' ∧ D.nx σd' G', fun v H' => ∃ d G', Den X.K H' d v ∧ TK H H' ∧ RG X.K G' H' ∧ D.rt d G', fun σ' H' => ∃ σd' G', TK H H' ∧ RS X.K σd' G' σ' H' ∧ D.bk σd' G', fun σ' H' => ∃ σd' G', TK H H' ∧ RS X.K σd' G' σ' H' ∧ D.ct σd' G'⟩ σ H) : DS X st t :=
  ⟨fun pins s σ H σd G He D I r tk tx ht => thn (h.run pins s σ H _ I (f σ H σd G He D r tk tx ht)) fun fl s' q => by
    cases fl with
    | next => obtain ⟨σ', H', I', σd', G', tk', r', q⟩ := q; exact ⟨σ', H', σd', G', I', tk', r', q⟩
    | brk => obtain ⟨σ', H', I', σd', G', tk', r', q⟩ := q; exact ⟨σ', H', σd', G', I', tk', r', q⟩
    | cont => obtain ⟨σ', H', I', σd', G', tk', r', q⟩ := q; exact ⟨σ', H', σd', G', I', tk', r', q⟩
    | ret u => obtain ⟨v, σ', H', I', rv, d, G', dn, tk', r', q⟩ := q; exact ⟨v, σ', H', d, G', I', rv, dn, tk', r', q⟩⟩
end
end DL
end
section
/-! D2: readings over plain data, and their rules: operators, comparisons, displays, subscripts. -/
namespace DL
open PySem PySem.Spec PyProof.Rows L2

abbrev KD := D → Gp → Prop
/-- the items of a list that is read -/
def lsAt (G : Gp) (p : Addr) (k : List D → Prop) : Prop := match G p with
  | some (.lst xs) => k xs
  | _ => False
/-- the items of a list that may change -/
def lsM (G : Gp) (p : Addr) (k : List D → Prop) : Prop := match G p with
  | some (.lst xs) => k xs
  | _ => False
theorem lsM.at {G : Gp} {p : Addr} {k : List D → Prop} (h : lsM G p k) : ∃ xs, G p = some (.lst xs) ∧ k xs := by
  unfold lsM at h
  cases e : G p with
  | none => rw [e] at h; exact h.elim
  | some o =>
    rw [e] at h
    cases o with
    | lst xs => exact ⟨xs, rfl, h⟩
    | _ => exact h.elim
theorem lsAt.at {G : Gp} {p : Addr} {k : List D → Prop} (h : lsAt G p k) : ∃ xs, G p = some (.lst xs) ∧ k xs := by
  unfold lsAt at h
  cases e : G p with
  | none => rw [e] at h; exact h.elim
  | some o =>
    rw [e] at h
    cases o with
    | lst xs => exact ⟨xs, rfl, h⟩
    | _ => exact h.elim
theorem lsAt.sq {K : PySem.W.Frag} {G : Gp} {H : Hp} {p : Addr} {k : List D → Prop} (r : RG K G H) (h : lsAt G p k) : ∃ ds xs, k ds ∧ SqL K H p xs ∧ DenL K H ds xs ∧ G p = some (.lst ds) := by
  obtain ⟨ds, e, hk⟩ := h.at
  obtain ⟨xs, h1, h2⟩ := r p _ e
  exact ⟨ds, xs, hk, SqL.of h1, h2, e⟩
theorem lsAt_lst {G : Gp} {p : Addr} {xs : List D} {k : List D → Prop} (h : G p = some (.lst xs)) (q : k xs) : lsAt G p k := by unfold lsAt; rw [h]; exact q
theorem lsM_lst {G : Gp} {p : Addr} {xs : List D} {k : List D → Prop} (h : G p = some (.lst xs)) (q : k xs) : lsM G p k := by unfold lsM; rw [h]; exact q

/-! ### data of any depth -/
def kPy (k : Key) : PyData := match k with | .inl i => .int i | .inr x => .str x
def deep (G : Gp) : Nat → D → Option PyData
  | 0, _ => none
  | _ + 1, .non => some .none
  | _ + 1, .bl b => some (.bool b)
  | _ + 1, .int i => some (.int i)
  | _ + 1, .str x => some (.str x)
  | n + 1, .tup ds => (ds.mapM (deep G n)).map .tuple
  | n + 1, .ref a => match G a with
    | some (.lst xs) => (xs.mapM (deep G n)).map .list
    | some (.dk kvs) => (kvs.mapM fun kv => (deep G n kv.2).map fun d => (kPy kv.1, d)).map .dict
    | _ => none
  | _ + 1, .ty _ => none
  | _ + 1, .fls _ => none
  | _ + 1, .exc _ _ => none

section
variable {X : Cx} {pins : List (Addr × Obj)} {σ : St} {H : Hp} {s : Shared} {G : Gp}
theorem reads_all {n : Nat} (ih : ∀ (d : D) (v : V) (u : Value) (p : PyData), Den X.K H d v → RelV v u → deep G n d = some p → ∃ as, Reads s.heap u p as ∧ ∀ a ∈ as, H a ≠ none) :
    ∀ (ds : List D) (xs : List V) (us : List Value) (ps : List PyData), DenL X.K H ds xs → Vals xs us → ds.mapM (deep G n) = some ps → ∃ as, ReadsAll s.heap us ps as ∧ ∀ a ∈ as, H a ≠ none
  | [], _, _, _, h, r, e => by
    cases h; cases r
    simp at e; subst e
    exact ⟨[], .nil, fun _ h => nomatch h⟩
  | d :: ds, _, _, ps, ⟨v, vs, e1, h1, h2⟩, r, e => by
    subst e1
    cases r with
    | cons ru rr =>
      simp only [List.mapM_cons, Option.bind_eq_bind, Option.pure_def] at e
      cases e2 : deep G n d with
      | none => rw [e2] at e; simp at e
      | some p =>
        rw [e2] at e
        cases e3 : ds.mapM (deep G n) with
        | none => rw [e3] at e; simp at e
        | some qs =>
          rw [e3] at e
          simp at e; subst e
          obtain ⟨as, ha, za⟩ := ih d _ _ p h1 ru e2
          obtain ⟨bs, hb, zb⟩ := reads_all ih ds _ _ qs h2 rr e3
          exact ⟨_, .cons ha hb, fun a h => (List.mem_append.mp h).elim (za a) (zb a)⟩
theorem reads_keys {prog : Program} {w : World} {h : Heap} : ∀ {es : List DictEntry} {kvs : List (Key × Value)}, Pairs (mixKind prog w) es kvs → ReadsAll h (es.map (·.key)) (kvs.map fun q => kPy q.1) [] ∧ es.map (·.val) = kvs.map (·.2)
  | _, _, .nil => ⟨.nil, rfl⟩
  | _, _, .cons (e := e) (kv := kv) hk hv t => by
    obtain ⟨t1, t2⟩ := reads_keys t
    refine ⟨?_, by simp only [List.map_cons, hv, t2]⟩
    have : Reads h e.key (kPy kv.1) [] := by
      rcases keyIs_shape (show keyIs kv.1 e.key = true from hk) with ⟨i, t, e1, e2⟩ | ⟨x, t, e1, e2⟩
      · rw [e1, e2]; exact .int i t
      · rw [e1, e2]; exact .str x t
    exact .cons this t1
theorem reads_kv {n : Nat} (ih : ∀ (d : D) (v : V) (u : Value) (p : PyData), Den X.K H d v → RelV v u → deep G n d = some p → ∃ as, Reads s.heap u p as ∧ ∀ a ∈ as, H a ≠ none) :
    ∀ (ds : List (Key × D)) (xs : List (Key × V)) (us : List (Key × Value)) (ps : List (PyData × PyData)), DenKV X.K H ds xs → KV xs us →
      (ds.mapM fun kv => (deep G n kv.2).map fun d => (kPy kv.1, d)) = some ps →
      (∃ bs, ReadsAll s.heap (us.map (·.2)) (ps.map (·.2)) bs ∧ ∀ a ∈ bs, H a ≠ none) ∧ ps.map (·.1) = us.map fun q => kPy q.1
  | [], _, _, _, h, r, e => by
    cases h; cases r
    simp at e; subst e
    exact ⟨⟨[], .nil, fun _ h => nomatch h⟩, rfl⟩
  | (k, d) :: ds, _, _, ps, ⟨v, vs, e1, h1, h2⟩, r, e => by
    subst e1
    cases r with
    | cons ru rr =>
      rename_i q us
      obtain ⟨eq, rv⟩ := ru
      simp only [List.mapM_cons, Option.bind_eq_bind, Option.pure_def] at e
      cases e2 : deep G n d with
      | none => rw [e2] at e; simp at e
      | some p =>
        rw [e2] at e
        cases e3 : (ds.mapM fun kv => (deep G n kv.2).map fun d => (kPy kv.1, d)) with
        | none => rw [e3] at e; simp at e
        | some qs =>
          rw [e3] at e
          simp at e; subst e
          obtain ⟨as, ha, za⟩ := ih d _ _ p h1 rv e2
          obtain ⟨⟨bs, hb, zb⟩, hk⟩ := reads_kv ih ds _ _ qs h2 rr e3
          refine ⟨⟨_, .cons ha hb, fun a h => (List.mem_append.mp h).elim (za a) (zb a)⟩, ?_⟩
          simp only [List.map_cons, hk]
          have : k = q.1 := eq
          rw [this]
theorem reads_of (I : Inv X pins σ H s) (r : RG X.K G H) : ∀ (n : Nat) (d : D) (v : V) (u : Value) (p : PyData), Den X.K H d v → RelV v u → deep G n d = some p → ∃ as, Reads s.heap u p as ∧ ∀ a ∈ as, H a ≠ none
  | 0, _, _, _, _, _, _, h => by simp [deep] at h
  | n + 1, .non, _, _, _, h, rv, e => by cases h; cases rv; simp [deep] at e; subst e; exact ⟨_, .none, fun _ h => nomatch h⟩
  | n + 1, .bl b, _, _, _, h, rv, e => by cases h; cases rv; simp [deep] at e; subst e; exact ⟨_, .bool b, fun _ h => nomatch h⟩
  | n + 1, .int i, _, _, _, h, rv, e => by cases h; obtain ⟨t, rfl⟩ := rv; simp [deep] at e; subst e; exact ⟨_, .int i t, fun _ h => nomatch h⟩
  | n + 1, .str x, _, _, _, h, rv, e => by cases h; obtain ⟨t, rfl⟩ := rv; simp [deep] at e; subst e; exact ⟨_, .str x t, fun _ h => nomatch h⟩
  | n + 1, .ty _, _, _, _, _, _, e => by simp [deep] at e
  | n + 1, .fls _, _, _, _, _, _, e => by simp [deep] at e
  | n + 1, .exc _ _, _, _, _, _, _, e => by simp [deep] at e
  | n + 1, .tup ds, _, _, p, ⟨a, xs, e1, hs, hd⟩, rv, e => by
    subst e1; cases rv
    simp only [deep] at e
    cases e3 : ds.mapM (deep G n) with
    | none => rw [e3] at e; simp at e
    | some ps =>
      rw [e3] at e
      simp at e; subst e
      obtain ⟨its, rvs, ⟨o, ho, hc, m, hda⟩, _⟩ := I.tuple hs
      obtain ⟨as, ha, za⟩ := reads_all (reads_of I r n) ds xs its ps hd rvs e3
      exact ⟨_, .tuple ho hc hda (by simpa using ha), za⟩
  | n + 1, .ref a, _, _, p, h, rv, e => by
    cases h; cases rv
    simp only [deep] at e
    cases eg : G a with
    | none => rw [eg] at e; simp at e
    | some o =>
      rw [eg] at e
      have ro := r a o eg
      cases o with
      | lst ds =>
        obtain ⟨xs, hH, hd⟩ := ro
        simp only at e
        cases e3 : ds.mapM (deep G n) with
        | none => rw [e3] at e; simp at e
        | some ps =>
          rw [e3] at e
          simp at e; subst e
          obtain ⟨its, rvs, ⟨o, m, ho, hc, _, hda⟩, _⟩ := I.list (SqL.of hH)
          obtain ⟨as, ha, za⟩ := reads_all (reads_of I r n) ds xs its ps hd rvs e3
          exact ⟨_, .list ho hc hda (by simpa using ha), fun b hb => (List.mem_cons.mp hb).elim (fun z => by rw [z, hH]; exact fun q => nomatch q) (za b)⟩
      | dk kvs =>
        obtain ⟨xs, hH, hd⟩ := ro
        simp only at e
        cases e3 : (kvs.mapM fun kv => (deep G n kv.2).map fun d => (kPy kv.1, d)) with
        | none => rw [e3] at e; simp at e
        | some ps =>
          rw [e3] at e
          simp at e; subst e
          obtain ⟨_, _, vs, kv, o, es, ep, ho, hx, hda, _, hp, _⟩ := (show ObjOk X.prog X.w H s.heap a (.dK xs) from I.hok a _ hH)
          obtain ⟨⟨bs, hb, zb⟩, hk⟩ := reads_kv (reads_of I r n) kvs xs vs ps hd kv e3
          obtain ⟨k1, k2⟩ := reads_keys (h := s.heap) hp
          rw [← hk] at k1
          rw [← k2] at hb
          refine ⟨_, .dict ho hx.1 hda k1 hb, fun b h => ?_⟩
          rcases List.mem_cons.mp h with z | z
          · rw [z, hH]; exact fun q => nomatch q
          · exact zb b z
      | dt _ => simp at e
      | ins _ _ => simp at e
      | exc _ _ => simp at e
end
end DL
end
section
/-! D3: operators, comparisons, truth, displays, subscripts over plain data. -/
namespace DL
open PySem PySem.Spec PyProof.Rows L2

/-- what a value-level rule hands back -/
abbrev Res (X : Cx) (σ : St) (H : Hp) (σd : SD) (Q : KD) (v : V) (H' : Hp) : Prop := ∃ d G', Den X.K H' d v ∧ TK H H' ∧ RS X.K σd G' σ H' ∧ Q d G'
section
variable {X : Cx} {σ : St} {H : Hp} {σd : SD} {G : Gp} {Q : KD}
theorem res {d : D} {v : V} (r : RS X.K σd G σ H) (h : Den X.K H d v) (q : Q d G) : Res X σ H σd Q v H := ⟨d, G, h, TK.refl, r, q⟩
theorem resI {i : Int} (r : RS X.K σd G σ H) (q : Q (.int i) G) : Res X σ H σd Q (.int i) H := ⟨.int i, G, rfl, TK.refl, r, q⟩
theorem resS {x : Str} (r : RS X.K σd G σ H) (q : Q (.str x) G) : Res X σ H σd Q (.str x) H := ⟨.str x, G, rfl, TK.refl, r, q⟩
theorem resB {b : Bool} (r : RS X.K σd G σ H) (q : Q (.bl b) G) : Res X σ H σd Q (.bl b) H := ⟨.bl b, G, rfl, TK.refl, r, q⟩
theorem resN (r : RS X.K σd G σ H) (q : Q .non G) : Res X σ H σd Q .non H := ⟨.non, G, rfl, TK.refl, r, q⟩
theorem resL {ds : List D} {xs : List V} {p : Addr} (r : RS X.K σd G σ H) (h : DenL X.K H ds xs) (hp : H p = none) (q : ∀ p, G p = none → Q (.ref p) (up G p (.lst ds))) : Res X σ H σd Q (.ref p) (upd H p (.lst xs)) :=
  ⟨.ref p, up G p (.lst ds), rfl, TK.new hp, r.to (TK.new hp) (r.ob.new hp ⟨xs, upd_same, h.keep (TK.new hp)⟩), q p (r.ob.free hp)⟩
theorem resT {ds : List D} {xs : List V} {p : Addr} (r : RS X.K σd G σ H) (h : DenL X.K H ds xs) (hp : H p = none) (q : Q (.tup ds) G) : Res X σ H σd Q (.ref p) (upd H p (.tup xs)) :=
  ⟨.tup ds, G, ⟨p, xs, rfl, SqT.of upd_same, h.keep (TK.new hp)⟩, TK.new hp, r.to (TK.new hp) (r.ob.aside hp), q⟩
end

/-! ### two-place operations -/
def OpD (X : Cx) (f : Value → Value → Sem Value) (r : D → D → Gp → KD → Prop) : Prop :=
  ∀ (x y : D) (σ : St) (H : Hp) (σd : SD) (G : Gp) (Q : KD) (vx vy : V) (pins : List (Addr × Obj)) (s : Shared) (u w : Value), Inv X pins σ H s → RS X.K σd G σ H → Den X.K H x vx → Den X.K H y vy → RelV vx u → RelV vy w → r x y G Q →
    wpAny (model X.prog X.w) X.A (f u w) (EP X pins σ (Res X σ H σd Q)) X.xe s

def bin (op : Operator) (x y : D) (G : Gp) (Q : KD) : Prop := match op, x, y with
  | .Add, .int i, .int j => Q (.int (i + j)) G
  | .Add, .str a, .str b => a.length + b.length ≤ sizeLine ∧ Q (.str (a ++ b)) G
  | .Add, .tup a, .tup b => a.length + b.length ≤ sizeLine ∧ Q (.tup (a ++ b)) G
  | .Add, .ref p, .ref q => lsM G p fun xs => lsM G q fun ys => xs.length + ys.length ≤ sizeLine ∧ ∀ r, G r = none → Q (.ref r) (up G r (.lst (xs ++ ys)))
  | .Sub, .int i, .int j => Q (.int (i - j)) G
  | .Mult, .int i, .int j => CMulX i j ∧ Q (.int (i * j)) G
  | .Mult, .ref p, .int k => lsM G p fun xs => -(2 ^ 63) ≤ k ∧ k < 2 ^ 63 ∧ xs.length * k.toNat ≤ sizeLine ∧ ∀ r, G r = none → Q (.ref r) (up G r (.lst (List.replicate k.toNat xs).flatten))
  | .Mod, .int i, .int j => 0 < j ∧ Q (.int (i % j)) G
  | .FloorDiv, .int i, .int j => CDivW i j ∧ Q (.int (i / j)) G
  | .Pow, .int i, .int j => 0 ≤ j ∧ (Builtin.Int.intBits i : Int) * j ≤ 2 ^ 27 ∧ Q (.int (i ^ j.toNat)) G
  | _, _, _ => False

section
variable {X : Cx}
theorem op_powW : OpR X (binaryOp .Pow) (rI (fun i j => 0 ≤ j ∧ (Builtin.Int.intBits i : Int) * j ≤ 2 ^ 27) fun i j => .int (i ^ j.toNat)) := opI fun _ _ _ _ _ _ _ hc q => pow_int hc.1 hc.2 q
theorem DenL.rep {K : PySem.W.Frag} {H : Hp} {ds : List D} {xs : List V} (h : DenL K H ds xs) : ∀ n, DenL K H (List.replicate n ds).flatten (List.replicate n xs).flatten
  | 0 => rfl
  | n + 1 => by
    rw [List.replicate_succ, List.replicate_succ, List.flatten_cons, List.flatten_cons]
    exact DenL.append h (DenL.rep h n)
theorem bin_ok (op : Operator) : OpD X (binaryOp op) (bin op) := by
  intro x y σ H σd G Q vx vy pins s u w I r hx hy ru rw' h
  have fin : ∀ (r' : R2), OpR X (binaryOp op) r' → r' vx vy H (Res X σ H σd Q) → wpAny (model X.prog X.w) X.A (binaryOp op u w) (EP X pins σ (Res X σ H σd Q)) X.xe s := fun r' ho hq => ho pins s σ H vx vy u w _ I ru rw' hq
  cases op with
  | Add =>
    cases x with
    | int i =>
      cases y with
      | int j => cases hx; cases hy; exact fin _ op_add ⟨i, j, rfl, rfl, resI r h⟩
      | _ => exact h.elim
    | str a =>
      cases y with
      | str b => cases hx; cases hy; exact fin _ op_add_str ⟨a, b, rfl, rfl, h.1, resS r h.2⟩
      | _ => exact h.elim
    | tup a =>
      cases y with
      | tup b =>
        obtain ⟨p, xs, rfl, sx, dx⟩ := hx
        obtain ⟨q, ys, rfl, sy, dy⟩ := hy
        refine fin _ op_catA ⟨p, q, xs, ys, rfl, rfl, sx, sy, by rw [← dx.length, ← dy.length]; exact h.1, fun e => ?_, fun _ e => ?_, fun _ _ l hl => ?_⟩
        · subst e
          have : a = [] := List.length_eq_zero_iff.mp (by rw [dx.length]; rfl)
          subst this
          exact res (d := .tup b) r ⟨q, ys, rfl, sy, dy⟩ h.2
        · subst e
          have : b = [] := List.length_eq_zero_iff.mp (by rw [dy.length]; rfl)
          subst this
          exact res (d := .tup a) r ⟨p, xs, rfl, sx, dx⟩ (by simpa using h.2)
        · exact resT r (dx.append dy) hl h.2
      | _ => exact h.elim
    | ref p =>
      cases y with
      | ref q =>
        cases hx; cases hy
        obtain ⟨xs, e1, h⟩ := h.at
        obtain ⟨ys, e2, hz, h⟩ := h.at
        obtain ⟨vs, h1, d1⟩ := r.ob p _ e1
        obtain ⟨ws, h2, d2⟩ := r.ob q _ e2
        exact fin _ op_cat ⟨p, q, vs, ws, rfl, rfl, h1, h2, by rw [← d1.length, ← d2.length]; exact hz, fun l hl => resL r (d1.append d2) hl h⟩
      | _ => exact h.elim
    | _ => exact h.elim
  | Sub =>
    cases x with
    | int i =>
      cases y with
      | int j => cases hx; cases hy; exact fin _ op_sub ⟨i, j, rfl, rfl, resI r h⟩
      | _ => exact h.elim
    | _ => exact h.elim
  | Mult =>
    cases x with
    | int i =>
      cases y with
      | int j => cases hx; cases hy; exact fin _ op_mulX ⟨i, j, rfl, rfl, h.1, resI r h.2⟩
      | _ => exact h.elim
    | ref p =>
      cases y with
      | int k =>
        cases hx; cases hy
        obtain ⟨xs, e1, h1, h2, h3, h⟩ := h.at
        obtain ⟨vs, g1, d1⟩ := r.ob p _ e1
        exact fin _ op_rep ⟨p, k, vs, rfl, rfl, g1, h1, h2, by rw [← d1.length]; exact h3, fun l hl => resL r (d1.rep _) hl h⟩
      | _ => exact h.elim
    | _ => exact h.elim
  | Mod =>
    cases x with
    | int i =>
      cases y with
      | int j => cases hx; cases hy; exact fin _ op_mod ⟨i, j, rfl, rfl, h.1, resI r h.2⟩
      | _ => exact h.elim
    | _ => exact h.elim
  | FloorDiv =>
    cases x with
    | int i =>
      cases y with
      | int j => cases hx; cases hy; exact fin _ op_fdivW ⟨i, j, rfl, rfl, h.1, resI r h.2⟩
      | _ => exact h.elim
    | _ => exact h.elim
  | Pow =>
    cases x with
    | int i =>
      cases y with
      | int j => cases hx; cases hy; exact fin _ op_powW ⟨i, j, rfl, rfl, ⟨h.1, h.2.1⟩, resI r h.2.2⟩
      | _ => exact h.elim
    | _ => exact h.elim
  | _ => exact (show False by cases x <;> cases y <;> exact h).elim

/-! ### comparisons -/
def toV : D → V
  | .non => .non | .bl b => .bl b | .int i => .int i | .str x => .str x | .ref a => .ref a | .ty n => .ty n | .tup _ => .non | .fls _ => .non | .exc _ _ => .non
def flatD : D → Bool
  | .non => true | .bl _ => true | .int _ => true | .str _ => true | _ => false
theorem flat_den {K : PySem.W.Frag} {H : Hp} : ∀ {d : D} {v : V}, flatD d = true → Den K H d v → v = toV d ∧ flatV v = true
  | .non, _, _, h => ⟨h, by rw [show _ = V.non from h]; rfl⟩
  | .bl b, _, _, h => ⟨h, by rw [show _ = V.bl b from h]; rfl⟩
  | .int i, _, _, h => ⟨h, by rw [show _ = V.int i from h]; rfl⟩
  | .str x, _, _, h => ⟨h, by rw [show _ = V.str x from h]; rfl⟩
theorem flat_denL {K : PySem.W.Frag} {H : Hp} : ∀ {ds : List D} {xs : List V}, ds.all flatD = true → DenL K H ds xs → xs = ds.map toV ∧ xs.all flatV = true
  | [], _, _, h => by cases h; exact ⟨rfl, rfl⟩
  | d :: ds, _, hf, ⟨v, vs, e, h1, h2⟩ => by
    subst e
    rw [List.all_cons, Bool.and_eq_true] at hf
    obtain ⟨a, b⟩ := flat_den hf.1 h1
    obtain ⟨c, e⟩ := flat_denL hf.2 h2
    exact ⟨by rw [a, c]; rfl, by rw [List.all_cons, b, e]; rfl⟩

def eqR (x y : D) (G : Gp) (k : Bool → Prop) : Prop := match x, y with
  | .int i, .int j => k (decide (i = j))
  | .str a, .str b => k (decide (a = b))
  | .bl a, .bl b => k (decide (a = b))
  | x, y => ∃ n p q, deep G n x = some p ∧ deep G n y = some q ∧ SeqAt.shaped p = true ∧ SeqAt.shaped q = true ∧ k (PyData.eqv p q)
def ordR (op : CmpOp) (x y : D) (k : Bool → Prop) : Prop := match op, x, y with
  | .Lt, .int i, .int j => k (decide (i < j))
  | .LtE, .int i, .int j => k (decide (i ≤ j))
  | .Gt, .int i, .int j => k (decide (j < i))
  | .GtE, .int i, .int j => k (decide (j ≤ i))
  | _, _, _ => False
def isNon : D → Bool
  | .non => true
  | _ => false
def isR (x y : D) (k : Bool → Prop) : Prop := match x, y with
  | x, .non => k (isNon x)
  | .bl a, .bl b => k (decide (a = b))
  | _, _ => False
def keyD : D → Option Key
  | .int i => some (.inl i)
  | .str x => some (.inr x)
  | _ => none
def inR (x y : D) (G : Gp) (k : Bool → Prop) : Prop := match y with
  | .fls ds => flatD x = true ∧ ds.all flatD = true ∧ k (inV (toV x) (ds.map toV))
  | .tup ds => flatD x = true ∧ ds.all flatD = true ∧ k (inV (toV x) (ds.map toV))
  | .ref p => match G p with
    | some (.lst ds) => flatD x = true ∧ ds.all flatD = true ∧ k (inV (toV x) (ds.map toV))
    | some (.dk kvs) => match keyD x with
      | some key => k (kvs.any fun kv => decide (kv.1 = key))
      | none => False
    | _ => False
  | .str z => match x with
    | .str w => k (!(Builtin.Str.occurrences z w 0 z.length 1).isEmpty)
    | _ => False
  | _ => False
def cmpR (op : CmpOp) (x y : D) (G : Gp) (k : Bool → Prop) : Prop := match op with
  | .Eq => eqR x y G k
  | .NotEq => eqR x y G fun b => k (!b)
  | .Is => isR x y k
  | .IsNot => isR x y fun b => k (!b)
  | .In => inR x y G k
  | .NotIn => inR x y G fun b => k (!b)
  | op => ordR op x y k
def cmp (op : CmpOp) (x y : D) (G : Gp) (Q : KD) : Prop := cmpR op x y G fun b => Q (.bl b) G

theorem cmp_ok (hu : X.A.units + 64 < cLine) (op : CmpOp) : OpD X (compareOp op) (cmp op) := by
  intro x y σ H σd G Q vx vy pins s u w I r hx hy ru rw' h
  have fin : ∀ (r' : R2), OpR X (compareOp op) r' → r' vx vy H (Res X σ H σd Q) → wpAny (model X.prog X.w) X.A (compareOp op u w) (EP X pins σ (Res X σ H σd Q)) X.xe s := fun r' ho hq => ho pins s σ H vx vy u w _ I ru rw' hq
  have gen : ∀ (k : Bool → Bool), (op = .Eq ∧ k = id ∨ op = .NotEq ∧ k = not) → (∃ n p q, deep G n x = some p ∧ deep G n y = some q ∧ SeqAt.shaped p = true ∧ SeqAt.shaped q = true ∧ Q (.bl (k (PyData.eqv p q))) G) →
      wpAny (model X.prog X.w) X.A (compareOp op u w) (EP X pins σ (Res X σ H σd Q)) X.xe s := fun k hk ⟨n, p, q, e1, e2, s1, s2, hq⟩ => by
    obtain ⟨as, r1, _⟩ := reads_of I r.ob n x vx u p hx ru e1
    obtain ⟨bs, r2, _⟩ := reads_of I r.ob n y vy w q hy rw' e2
    rcases hk with ⟨rfl, rfl⟩ | ⟨rfl, rfl⟩
    · exact SeqAt.compareEq_shaped r1 r2 s1 s2 hu ⟨.bl _, H, I, rfl, resB r hq⟩
    · exact SeqAt.compareNe_shaped r1 r2 s1 s2 hu ⟨.bl _, H, I, rfl, resB r hq⟩
  have flt : ∀ (ds : List D) (ws : List V) (p : Addr) (neg : Bool), (op = .In ∧ neg = false ∨ op = .NotIn ∧ neg = true) → vy = .ref p → (SqL X.K H p ws ∨ SqT X.K H p ws) → DenL X.K H ds ws → flatD x = true → ds.all flatD = true → Q (.bl (if neg then !inV (toV x) (ds.map toV) else inV (toV x) (ds.map toV))) G →
      wpAny (model X.prog X.w) X.A (compareOp op u w) (EP X pins σ (Res X σ H σd Q)) X.xe s := fun ds ws p neg hk e hsq hd f1 f2 hq => by
    obtain ⟨ex, fx⟩ := flat_den f1 hx
    obtain ⟨ey, fy⟩ := flat_denL f2 hd
    subst e
    rcases hk with ⟨rfl, rfl⟩ | ⟨rfl, rfl⟩
    · exact fin _ op_in_seq ⟨p, ws, rfl, hsq, fx, fy, by rw [ex, ey]; exact resB r hq⟩
    · exact fin _ op_notIn_seq ⟨p, ws, rfl, hsq, fx, fy, by rw [ex, ey]; exact resB r hq⟩
  have inn : ∀ (k : Bool → Bool) (neg : Bool), (op = .In ∧ neg = false ∧ k = id ∨ op = .NotIn ∧ neg = true ∧ k = not) → inR x y G (fun b => Q (.bl (k b)) G) → wpAny (model X.prog X.w) X.A (compareOp op u w) (EP X pins σ (Res X σ H σd Q)) X.xe s := fun k neg hk hq => by
    have hk2 : op = .In ∧ neg = false ∨ op = .NotIn ∧ neg = true := hk.imp (fun z => ⟨z.1, z.2.1⟩) fun z => ⟨z.1, z.2.1⟩
    have hk3 : ∀ b, k b = if neg then !b else b := fun b => by rcases hk with ⟨_, rfl, rfl⟩ | ⟨_, rfl, rfl⟩ <;> rfl
    cases y with
    | tup ds =>
      obtain ⟨p, ws, e, hs, hd⟩ := hy
      obtain ⟨f1, f2, hq⟩ := hq
      rw [hk3] at hq
      exact flt ds ws p neg hk2 e (.inr hs) hd f1 f2 hq
    | fls ds =>
      obtain ⟨p, ws, e, hs, hd⟩ := hy
      obtain ⟨f1, f2, hq⟩ := hq
      rw [hk3] at hq
      exact flt ds ws p neg hk2 e (.inl hs.sql) hd f1 f2 hq
    | str z =>
      cases x with
      | str a =>
        cases hx; cases hy
        rcases hk with ⟨rfl, _, rfl⟩ | ⟨rfl, _, rfl⟩
        · exact fin _ op_in_str ⟨a, z, rfl, rfl, resB r hq⟩
        · exact fin _ op_notin_str ⟨a, z, rfl, rfl, resB r hq⟩
      | _ => exact hq.elim
    | ref p =>
      simp only [inR] at hq
      cases eg : G p with
      | none => rw [eg] at hq; exact hq.elim
      | some o =>
        rw [eg] at hq
        have ro := r.ob p o eg
        cases o with
        | lst ds =>
          obtain ⟨ws, h1, hd⟩ := ro
          obtain ⟨f1, f2, hq⟩ := hq
          rw [hk3] at hq
          exact flt ds ws p neg hk2 hy (.inl (SqL.of h1)) hd f1 f2 hq
        | dk kvs =>
          obtain ⟨ws, h1, hd⟩ := ro
          simp only at hq
          have hv : ∀ {kvs : List (Key × D)} {ws : List (Key × V)} (key : Key), DenKV X.K H kvs ws → (valV ws key).isSome = kvs.any fun kv => decide (kv.1 = key) := by
            intro kvs
            induction kvs with
            | nil => intro ws key h; cases h; rfl
            | cons kv kvs ih =>
              intro ws key h
              obtain ⟨k0, d0⟩ := kv
              obtain ⟨v, vs, e, _, h2⟩ := h
              subst e
              have := ih key h2
              unfold valV at this ⊢
              rw [List.any_cons, List.find?_cons]
              by_cases hk0 : k0 = key
              · simp [hk0]
              · simp [hk0] at this ⊢; exact this
          cases ek : keyD x with
          | none => rw [ek] at hq; exact hq.elim
          | some key =>
            rw [ek] at hq
            simp only at hq
            have hkv : vx = kV key := by
              cases x with
              | int i => cases ek; exact hx
              | str z => cases ek; exact hx
              | _ => cases ek
            cases (show vy = V.ref p from hy)
            obtain rfl : w = Value.ref p := rw'
            subst hkv
            have g : DGet H p (kV key) (valV ws key) := DGet.k (k := key) h1
            rcases hk with ⟨rfl, _, rfl⟩ | ⟨rfl, _, rfl⟩
            · exact d_in (by omega) I g ru fun s3 I3 => ⟨.bl (valV ws key).isSome, H, I3, rfl, resB r (by rw [hv key hd]; exact hq)⟩
            · exact d_notIn (by omega) I g ru fun s3 I3 => ⟨.bl (!(valV ws key).isSome), H, I3, rfl, resB r (by rw [hv key hd]; exact hq)⟩
        | _ => exact hq.elim
    | _ => exact hq.elim
  have iss : ∀ (k : Bool → Bool), (op = .Is ∧ k = id ∨ op = .IsNot ∧ k = not) → isR x y (fun b => Q (.bl (k b)) G) → wpAny (model X.prog X.w) X.A (compareOp op u w) (EP X pins σ (Res X σ H σd Q)) X.xe s := fun k hk hq => by
    have nn : decide (vx = .non) = isNon x := by
      cases x with
      | tup ds => obtain ⟨p, ws, e, _⟩ := hx; subst e; rfl
      | fls ds => obtain ⟨p, ws, e, _⟩ := hx; subst e; rfl
      | exc _ _ => obtain ⟨p, _, _, _, _, _, e, _⟩ := hx; subst e; rfl
      | _ => cases hx; rfl
    cases y with
    | non =>
      cases hy
      have hq : Q (.bl (k (isNon x))) G := by cases x <;> exact hq
      rcases hk with ⟨rfl, rfl⟩ | ⟨rfl, rfl⟩
      · exact fin _ op_isN ⟨rfl, by rw [nn]; exact resB r hq⟩
      · exact fin _ op_notN ⟨rfl, by rw [nn]; exact resB r hq⟩
    | bl b =>
      cases x with
      | bl a =>
        cases hx; cases hy
        rcases hk with ⟨rfl, rfl⟩ | ⟨rfl, rfl⟩
        · exact fin _ op_is_bl ⟨a, b, rfl, rfl, resB r hq⟩
        · exact fin _ op_isnot_bl ⟨a, b, rfl, rfl, resB r hq⟩
      | _ => exact hq.elim
    | _ => exact (show False by cases x <;> exact hq).elim
  have ord : ∀ (h : ordR op x y fun b => Q (.bl b) G), wpAny (model X.prog X.w) X.A (compareOp op u w) (EP X pins σ (Res X σ H σd Q)) X.xe s := fun h => by
    cases x with
    | int i =>
      cases y with
      | int j =>
        cases hx; cases hy
        cases op with
        | Lt => exact fin _ op_lt ⟨i, j, rfl, rfl, resB r h⟩
        | LtE => exact fin _ op_le ⟨i, j, rfl, rfl, resB r h⟩
        | Gt => exact fin _ op_gt ⟨i, j, rfl, rfl, resB r h⟩
        | GtE => exact fin _ op_ge ⟨i, j, rfl, rfl, resB r h⟩
        | _ => exact h.elim
      | _ => exact (show False by cases op <;> exact h).elim
    | _ => exact (show False by cases op <;> exact h).elim
  have eqq : ∀ (k : Bool → Bool), (op = .Eq ∧ k = id ∨ op = .NotEq ∧ k = not) → eqR x y G (fun b => Q (.bl (k b)) G) → wpAny (model X.prog X.w) X.A (compareOp op u w) (EP X pins σ (Res X σ H σd Q)) X.xe s := fun k hk hq => by
    have sc : ∀ (b : Bool), scal vx vy = true → decide (vx = vy) = b → Q (.bl (k b)) G → wpAny (model X.prog X.w) X.A (compareOp op u w) (EP X pins σ (Res X σ H σd Q)) X.xe s := fun b h1 h2 hq => by
      rcases hk with ⟨rfl, rfl⟩ | ⟨rfl, rfl⟩
      · exact fin _ op_eq ⟨h1, by rw [h2]; exact resB r hq⟩
      · exact fin _ op_ne ⟨h1, by rw [h2]; exact resB r hq⟩
    cases x with
    | int i =>
      cases y with
      | int j => cases hx; cases hy; exact sc _ rfl (by simp) hq
      | _ => exact gen k hk hq
    | str a =>
      cases y with
      | str b => cases hx; cases hy; exact sc _ rfl (by simp) hq
      | _ => exact gen k hk hq
    | bl a =>
      cases y with
      | bl b => cases hx; cases hy; exact sc _ rfl (by simp) hq
      | _ => exact gen k hk hq
    | _ => exact gen k hk hq
  cases op with
  | Eq => exact eqq id (.inl ⟨rfl, rfl⟩) h
  | NotEq => exact eqq not (.inr ⟨rfl, rfl⟩) h
  | Is => exact iss id (.inl ⟨rfl, rfl⟩) h
  | IsNot => exact iss not (.inr ⟨rfl, rfl⟩) h
  | In => exact inn id false (.inl ⟨rfl, rfl, rfl⟩) h
  | NotIn => exact inn not true (.inr ⟨rfl, rfl, rfl⟩) h
  | Lt => exact ord h
  | LtE => exact ord h
  | Gt => exact ord h
  | GtE => exact ord h
end
end DL
end
section
/-! D4: expressions over plain data: the rules. -/
namespace DL
open PySem PySem.Spec PyProof.Rows L2

def dVar (i : Nat) : TED := fun σ G Q _ => match σ[i]? with
  | some (some d) => Q d G
  | _ => False
def dCst (d : D) : TED := fun _ G Q _ => Q d G
def dOp2 (r : D → D → Gp → KD → Prop) (ta tb : TED) : TED := fun σ G Q E => ta σ G (fun x G1 => tb σ G1 (fun y G2 => r x y G2 Q) E) E
def truD (x : D) (G : Gp) (k : Bool → Prop) : Prop := match x with
  | .non => k false
  | .bl b => k b
  | .int i => k (i != 0)
  | .str y => y.length ≤ sizeLine ∧ k ((y.length : Int) != 0)
  | .tup ds => k (!ds.isEmpty)
  | .fls ds => k (!ds.isEmpty)
  | .ref p => match G p with
    | some (.lst xs) => k (!xs.isEmpty)
    | some (.dk kvs) => k (!kvs.isEmpty)
    | _ => False
  | .ty _ => False
  | .exc _ _ => False
/-- a value as a test -/
def dTru (te : TED) : TTD := fun σ G Q E => te σ G (fun x G1 => truD x G1 fun b => Q b G1) E
def dAndV (ta tb : TED) : TED := fun σ G Q E => ta σ G (fun x G1 => truD x G1 fun b => if b = true then tb σ G1 Q E else Q x G1) E
def dOrV (ta tb : TED) : TED := fun σ G Q E => ta σ G (fun x G1 => truD x G1 fun b => if b = true then Q x G1 else tb σ G1 Q E) E
def dNotV (ta : TED) : TED := fun σ G Q E => ta σ G (fun x G1 => truD x G1 fun b => Q (.bl (!b)) G1) E
def dAndT (ta tb : TTD) : TTD := fun σ G Q E => ta σ G (fun b G1 => if b = true then tb σ G1 Q E else Q false G1) E
def dOrT (ta tb : TTD) : TTD := fun σ G Q E => ta σ G (fun b G1 => if b = true then Q true G1 else tb σ G1 Q E) E
def dNotT (ta : TTD) : TTD := fun σ G Q E => ta σ G (fun b G1 => Q (!b) G1) E
def dIfE (tc : TTD) (ta tb : TED) : TED := fun σ G Q E => tc σ G (fun b G1 => if b = true then ta σ G1 Q E else tb σ G1 Q E) E
def dChain (o1 o2 : CmpOp) (ta tb tc : TED) : TED := fun σ G Q E => ta σ G (fun x G1 => tb σ G1 (fun y G2 => cmpR o1 x y G2 fun b => if b = true then tc σ G2 (fun z G3 => cmp o2 y z G3 Q) E else Q (.bl false) G2) E) E
def dNil : TAD := fun _ G Q _ => Q [] G
def dCons (te : TED) (t : TAD) : TAD := fun σ G Q E => te σ G (fun x G1 => t σ G1 (fun xs G2 => Q (x :: xs) G2) E) E
def dTup (t : TAD) : TED := fun σ G Q E => t σ G (fun ds G1 => ds.length ≤ sizeLine ∧ Q (.tup ds) G1) E
def dLst (t : TAD) : TED := fun σ G Q E => t σ G (fun ds G1 => ds.length ≤ sizeLine ∧ ∀ p, G1 p = none → Q (.ref p) (up G1 p (.lst ds))) E
def dUn (r : D → Gp → KD → Prop) (ta : TED) : TED := fun σ G Q E => ta σ G (fun x G1 => r x G1 Q) E

section
variable {X : Cx} {a b c e : Expr} {es : List Expr} {ta tb tc te : TED} {t : TAD} {pos : Pos}
theorem de_var {i : Nat} {x : Str} (hN : X.N[i]? = some x) (hv : Vis X.env.scope x) (hd : (x == ("__debug__" : Str)) = false) (hcd : (x == ("__classdict__" : Str)) = false) : DE X (.Name x pos) (dVar i) :=
  DE.of (pe_var hN hv hd hcd) fun σ H σd G He E Q r tk tx h => by
    unfold dVar at h
    cases e1 : σd[i]? with
    | none => rw [e1] at h; exact h.elim
    | some o =>
      rw [e1] at h
      cases o with
      | none => exact h.elim
      | some d =>
        obtain ⟨v, ev, dn⟩ := r.sl i d e1
        exact ⟨v, ev, d, G, dn, TK.refl, r, h⟩
theorem de_int {i j} : DE X (.Constant (.int i) j pos) (dCst (.int i)) := DE.of pe_int fun σ H σd G He E Q r tk tx h => resI r h
theorem de_bl {b j} : DE X (.Constant (.bool b) j pos) (dCst (.bl b)) := DE.of pe_bl fun σ H σd G He E Q r tk tx h => resB r h
theorem de_non {j} : DE X (.Constant .none j pos) (dCst .non) := DE.of pe_non fun σ H σd G He E Q r tk tx h => resN r h
theorem de_str {x j} : DE X (.Constant (.str x) j pos) (dCst (.str x)) := DE.of pe_str fun σ H σd G He E Q r tk tx h => resS r h
/-- a module's name that holds plain data, a class, a def -/
def GlobD (K : PySem.W.Frag) (mg : Str → Option Value) (x : Str) (d : D) : Prop := ∃ v u, mg x = some u ∧ RelV v u ∧ ∀ H : Hp, Den K H d v
theorem de_glo {x : Str} {d : D} (hg : Gl X x) (h : GlobD X.K X.mg x d) (hd : (x == ("__debug__" : Str)) = false) : DE X (.Name x pos) (dCst d) := by
  obtain ⟨v, u, hm, rv, dn⟩ := h
  exact DE.of (pe_glob hg hm rv hd) fun σ H σd G He E Q r tk tx h => ⟨d, G, dn H, TK.refl, r, h⟩
theorem de_blt {x : Str} {n : String} (hg : Gl X x) (hm : X.mg x = none) (hv : bootBuiltins x = some (.type n)) (hn : x ≠ "__name__") (hd : (x == ("__debug__" : Str)) = false) : DE X (.Name x pos) (dCst (.ty n)) :=
  DE.of (pe_bltn (v := .ty n) hg hm hv rfl hn hd) fun σ H σd G He E Q r tk tx h => ⟨.ty n, G, rfl, TK.refl, r, h⟩

/-- two expressions, one behind the other -/
theorem two {σ : St} {H : Hp} {σd : SD} {G : Gp} {He : Hp} {E : XD} {R : D → D → Gp → Prop} (r : RS X.K σd G σ H) (tk : TK He H) (tx : Takes X (WD X.K He E)) (h : ta σd G (fun x G1 => tb σd G1 (fun y G2 => R x y G2) E) E) :
    dnE X ta σ H fun vx H1 => dnE X tb σ H1 fun vy H2 => ∃ x y G2, Den X.K H2 x vx ∧ Den X.K H2 y vy ∧ TK H H2 ∧ RS X.K σd G2 σ H2 ∧ R x y G2 :=
  ⟨σd, G, He, E, _, r, tk, tx, h, fun vx H1 x G1 n1 t1 r1 h1 => ⟨σd, G1, He, E, _, r1, tk.trans t1, tx, h1, fun vy H2 y G2 n2 t2 r2 h2 => ⟨x, y, G2, n1.keep t2, n2, t1.trans t2, r2, h2⟩⟩⟩
theorem after {pins : List (Addr × Obj)} {σ : St} {H H2 : Hp} {σd : SD} {Q : KD} (t : TK H H2) {u : Value} {s' : Shared} (h : EP X pins σ (Res X σ H2 σd Q) u s') : PDe X pins σ H σd Q u s' :=
  let ⟨z, H', I', rz, d, G', n, t', rr, qq⟩ := h
  ⟨z, H', d, G', I', rz, n, t.trans t', rr, qq⟩
theorem de_bin (op : Operator) (ha : DE X a ta) (hb : DE X b tb) : DE X (.BinOp a op b pos) (dOp2 (bin op) ta tb) :=
  ⟨fun pins s σ H σd G He E Q I r tk tx h => wpAny_BinOp (binT ha.pe hb.pe I (two r tk tx h) fun v u s2 x y H2 I2 rx ry ⟨dx, dy, G2, n1, n2, t2, r2, q⟩ =>
    thn (bin_ok op dx dy σ H2 σd G2 Q x y pins s2 v u I2 r2 n1 n2 rx ry q) fun u' s' z => after t2 z)⟩
theorem de_cmp (hu : X.A.units + 64 < cLine) (op : CmpOp) (ha : DE X a ta) (hb : DE X b tb) (hm : behindInMarks op b = false) : DE X (.Compare a [op] [b] pos) (dOp2 (cmp op) ta tb) :=
  ⟨fun pins s σ H σd G He E Q I r tk tx h => wpAny_Compare1 (binT ha.pe hb.pe I (two r tk tx h) fun v u s2 x y H2 I2 rx ry ⟨dx, dy, G2, n1, n2, t2, r2, q⟩ =>
    thn (cmp_ok hu op dx dy σ H2 σd G2 Q x y pins s2 v u I2 r2 n1 n2 rx ry q) fun u' s' z => after t2 z) hm⟩
def negD (x : D) (G : Gp) (Q : KD) : Prop := match x with
  | .int i => Q (.int (-i)) G
  | _ => False
theorem de_neg (ha : DE X a ta) : DE X (.UnaryOp .USub a pos) (dUn negD ta) :=
  ⟨fun pins s σ H σd G He E Q I r tk tx h => UnaryOp_ (thn (ha.run pins s σ H σd G He E _ I r tk tx h) fun v s1 ⟨x, H1, d, G1, I1, rx, n1, t1, r1, q1⟩ => by
    cases d with
    | int i =>
      cases n1
      exact thn (un_neg pins s1 σ H1 (.int i) v _ I1 rx ⟨i, rfl, resI r1 q1⟩) fun u' s' z => after t1 z
    | _ => exact (show False from q1).elim)⟩
/-! ### truth -/
theorem tru_of {σ : St} {H : Hp} {σd : SD} {G : Gp} {x : D} {v : V} {k : Bool → Prop} (r : RG X.K G H) (n : Den X.K H x v) (h : truD x G k) : ∃ b, TruV X.K v H b ∧ k b := by
  cases x with
  | non => cases n; exact ⟨_, rfl, h⟩
  | bl b => cases n; exact ⟨_, rfl, h⟩
  | int i => cases n; exact ⟨_, rfl, h⟩
  | str y => cases n; exact ⟨_, ⟨h.1, rfl⟩, h.2⟩
  | ty _ => exact h.elim
  | exc _ _ => exact h.elim
  | tup ds =>
    obtain ⟨p, xs, rfl, sx, dx⟩ := n
    refine ⟨_, .inr (.inl ⟨xs, sx, rfl⟩), ?_⟩
    have : ds.isEmpty = xs.isEmpty := by cases ds with
      | nil => cases dx; rfl
      | cons d ds => obtain ⟨v, vs, rfl, _⟩ := dx; rfl
    rw [← this]; exact h
  | fls ds =>
    obtain ⟨p, xs, rfl, sx, dx⟩ := n
    refine ⟨_, .inl ⟨xs, sx.sql, rfl⟩, ?_⟩
    have : ds.isEmpty = xs.isEmpty := by cases ds with
      | nil => cases dx; rfl
      | cons d ds => obtain ⟨v, vs, rfl, _⟩ := dx; rfl
    rw [← this]; exact h
  | ref p =>
    cases n
    simp only [truD] at h
    cases eg : G p with
    | none => rw [eg] at h; exact h.elim
    | some o =>
      rw [eg] at h
      have ro := r p o eg
      cases o with
      | lst ds =>
        obtain ⟨xs, h1, dx⟩ := ro
        refine ⟨_, .inl ⟨xs, SqL.of h1, rfl⟩, ?_⟩
        have : ds.isEmpty = xs.isEmpty := by cases ds with
          | nil => cases dx; rfl
          | cons d ds => obtain ⟨v, vs, rfl, _⟩ := dx; rfl
        rw [← this]; exact h
      | dk ds =>
        obtain ⟨xs, h1, dx⟩ := ro
        refine ⟨_, .inr (.inr ⟨xs, h1, rfl⟩), ?_⟩
        have : ds.isEmpty = xs.isEmpty := by cases ds with
          | nil => cases dx; rfl
          | cons d ds => obtain ⟨v, vs, rfl, _⟩ := dx; rfl
        rw [← this]; exact h
      | _ => exact h.elim
theorem tru_run {pins : List (Addr × Obj)} {σ : St} {H : Hp} {s : Shared} {G : Gp} {x : D} {v : V} {u : Value} {k : Bool → Prop} {Q : Bool → Shared → Prop} (I : Inv X pins σ H s) (r : RG X.K G H) (n : Den X.K H x v) (ru : RelV v u) (h : truD x G k)
    (hq : ∀ b s', Inv X pins σ H s' → k b → Q b s') : wpAny (model X.prog X.w) X.A (truthy u) Q X.xe s := by
  obtain ⟨b, tv, kb⟩ := tru_of (σ := σ) (σd := []) r n h
  exact thn (tru_ok pins s σ H v u (fun c H' => H' = H ∧ k c) I ru ⟨b, tv, rfl, kb⟩) fun c s' ⟨H', I', e, kc⟩ => by subst e; exact hq c s' I' kc
theorem dt_tru (ha : DE X a ta) (he : ∀ whole, isTrue a X.env whole = (do let v ← whole; standAt a.pos; holding [v] (truthy v))) : DT X a (dTru ta) :=
  ⟨fun pins s σ H σd G He E Q I r tk tx h => isTrue_plain (thn (ha.run pins s σ H σd G He E _ I r tk tx h) fun v s1 ⟨x, H1, d, G1, I1, rx, n1, t1, r1, q1⟩ =>
    tru_run I1 r1.ob n1 rx q1 fun b s' I' kb => ⟨H1, G1, I', t1, r1, kb⟩) (he _)⟩
theorem cmpR_cmp {op : CmpOp} {x y : D} {G : Gp} {k : Bool → Prop} (h : cmpR op x y G k) : cmp op x y G fun d G' => ∃ b, d = .bl b ∧ G' = G ∧ k b := by
  have mono : ∀ {k k' : Bool → Prop}, (∀ b, k b → k' b) → cmpR op x y G k → cmpR op x y G k' := by
    intro k k' hk hc
    have eqm : ∀ {k k' : Bool → Prop}, (∀ b, k b → k' b) → eqR x y G k → eqR x y G k' := by
      intro k k' hk hc
      have gm : (∃ n p q, deep G n x = some p ∧ deep G n y = some q ∧ SeqAt.shaped p = true ∧ SeqAt.shaped q = true ∧ k (PyData.eqv p q)) → (∃ n p q, deep G n x = some p ∧ deep G n y = some q ∧ SeqAt.shaped p = true ∧ SeqAt.shaped q = true ∧ k' (PyData.eqv p q)) :=
        fun ⟨n, p, q, a, b, c, d, z⟩ => ⟨n, p, q, a, b, c, d, hk _ z⟩
      cases x <;> cases y <;> first | exact hk _ hc | exact gm hc
    have ism : ∀ {k k' : Bool → Prop}, (∀ b, k b → k' b) → isR x y k → isR x y k' := by
      intro k k' hk hc
      cases x <;> cases y <;> first | exact hk _ hc | exact hc.elim
    have inm : ∀ {k k' : Bool → Prop}, (∀ b, k b → k' b) → inR x y G k → inR x y G k' := by
      intro k k' hk hc
      unfold inR at hc ⊢
      cases y with
      | tup ds => exact ⟨hc.1, hc.2.1, hk _ hc.2.2⟩
      | fls ds => exact ⟨hc.1, hc.2.1, hk _ hc.2.2⟩
      | str z =>
        cases x with
        | str w => exact hk _ hc
        | _ => exact hc.elim
      | ref p =>
        simp only at hc ⊢
        cases eg : G p with
        | none => rw [eg] at hc; exact hc.elim
        | some o =>
          rw [eg] at hc
          cases o with
          | lst ds => exact ⟨hc.1, hc.2.1, hk _ hc.2.2⟩
          | dk kvs =>
            simp only at hc ⊢
            cases ek : keyD x with
            | none => rw [ek] at hc; exact hc.elim
            | some key => rw [ek] at hc; exact hk _ hc
          | _ => exact hc.elim
      | _ => exact hc.elim
    have orm : ordR op x y k → ordR op x y k' := by
      intro hc
      cases op <;> cases x <;> cases y <;> first | exact hk _ hc | exact hc.elim
    cases op with
    | Eq => exact eqm hk hc
    | NotEq => exact eqm (fun b => hk (!b)) hc
    | Is => exact ism hk hc
    | IsNot => exact ism (fun b => hk (!b)) hc
    | In => exact inm hk hc
    | NotIn => exact inm (fun b => hk (!b)) hc
    | _ => exact orm hc
  exact mono (fun b kb => ⟨b, rfl, rfl, kb⟩) h
theorem dt_cmp (hu : X.A.units + 64 < cLine) (op : CmpOp) (ha : DE X a ta) (hb : DE X b tb) (hm : behindInMarks op b = false) : DT X (.Compare a [op] [b] pos) (fun σ G Q E => ta σ G (fun x G1 => tb σ G1 (fun y G2 => cmpR op x y G2 fun k => Q k G2) E) E) :=
  ⟨fun pins s σ H σd G He E Q I r tk tx h => by
    refine wpAny_isTrue_Compare1 (binT ha.pe hb.pe I (two (R := fun x y G2 => cmpR op x y G2 fun k => Q k G2) r tk tx h) fun v u s2 x y H2 I2 rx ry ⟨dx, dy, G2, n1, n2, t2, r2, q⟩ =>
      thn (cmp_ok hu op dx dy σ H2 σd G2 _ x y pins s2 v u I2 r2 n1 n2 rx ry (cmpR_cmp q)) fun u' s' ⟨z, H', I', rz, d, G', n, t', rr, b, e1, e2, kb⟩ => ?_) hm
    subst e1; subst e2
    cases n
    cases rz
    exact wpAny_truthy_bool ⟨H', G', I', t2.trans t', rr, kb⟩⟩
/-! ### and, or, not -/
structure DW (X : Cx) (e : Expr) (t : TTD) : Prop where
  run : ∀ (whole : Sem Value) (pins : List (Addr × Obj)) (s : Shared) (σ : St) (H : Hp) (σd : SD) (G : Gp) (He : Hp) (E : XD) (Q : Bool → Gp → Prop), Inv X pins σ H s → RS X.K σd G σ H → TK He H → Takes X (WD X.K He E) → t σd G Q E →
    wpAny (model X.prog X.w) X.A (isTrue e X.env whole) (fun b s' => ∃ H' G', Inv X pins σ H' s' ∧ TK H H' ∧ RS X.K σd G' σ H' ∧ Q b G') X.xe s
theorem DW.dt {t : TTD} (h : DW X e t) : DT X e t := ⟨h.run _⟩
variable {t1 t2 : TTD} {rest : List Expr}
theorem dw_and1 (ha : DT X a t1) : DW X (.BoolOp .And [a] pos) t1 := ⟨fun wh pins s σ H σd G He E Q I r tk tx h => isTrue_and (thn (ha.run pins s σ H σd G He E Q I r tk tx h) fun c s1 z => by
  cases c with
  | true => exact isTrue_and_nil z
  | false => exact z)⟩
theorem dw_or1 (ha : DT X a t1) : DW X (.BoolOp .Or [a] pos) t1 := ⟨fun wh pins s σ H σd G He E Q I r tk tx h => isTrue_or (thn (ha.run pins s σ H σd G He E Q I r tk tx h) fun c s1 z => by
  cases c with
  | true => exact z
  | false => exact isTrue_or_nil z)⟩
theorem dw_and (ha : DT X a t1) (hb : DW X (.BoolOp .And rest pos) t2) : DW X (.BoolOp .And (a :: rest) pos) (dAndT t1 t2) := ⟨fun wh pins s σ H σd G He E Q I r tk tx h => isTrue_and (thn (ha.run pins s σ H σd G He E _ I r tk tx h) fun c s1 ⟨H1, G1, I1, k1, r1, q⟩ => by
  cases c with
  | true => exact thn (hb.run wh pins s1 σ H1 σd G1 He E Q I1 r1 (tk.trans k1) tx q) fun b s2 ⟨H2, G2, I2, k2, r2, q2⟩ => ⟨H2, G2, I2, k1.trans k2, r2, q2⟩
  | false => exact ⟨H1, G1, I1, k1, r1, q⟩)⟩
theorem dw_or (ha : DT X a t1) (hb : DW X (.BoolOp .Or rest pos) t2) : DW X (.BoolOp .Or (a :: rest) pos) (dOrT t1 t2) := ⟨fun wh pins s σ H σd G He E Q I r tk tx h => isTrue_or (thn (ha.run pins s σ H σd G He E _ I r tk tx h) fun c s1 ⟨H1, G1, I1, k1, r1, q⟩ => by
  cases c with
  | false => exact thn (hb.run wh pins s1 σ H1 σd G1 He E Q I1 r1 (tk.trans k1) tx q) fun b s2 ⟨H2, G2, I2, k2, r2, q2⟩ => ⟨H2, G2, I2, k1.trans k2, r2, q2⟩
  | true => exact ⟨H1, G1, I1, k1, r1, q⟩)⟩
theorem dt_not (ha : DT X a t1) : DT X (.UnaryOp .Not a pos) (dNotT t1) := ⟨fun pins s σ H σd G He E Q I r tk tx h => isTrue_not (thn (ha.run pins s σ H σd G He E _ I r tk tx h) fun c s1 z => z)⟩
theorem de_one {op} (ha : DE X a ta) : DE X (.BoolOp op [a] pos) ta := ⟨fun pins s σ H σd G He E Q I r tk tx h => BoolOp_one (ha.run pins s σ H σd G He E Q I r tk tx h)⟩
theorem de_and (ha : DE X a ta) (hb : DE X (.BoolOp .And (b :: rest) pos) tb) : DE X (.BoolOp .And (a :: b :: rest) pos) (dAndV ta tb) :=
  ⟨fun pins s σ H σd G He E Q I r tk tx h => BoolOp_and (thn (ha.run pins s σ H σd G He E _ I r tk tx h) fun v s1 ⟨x, H1, d, G1, I1, rx, n1, k1, r1, q1⟩ =>
    tru_run I1 r1.ob n1 rx q1 fun c s' I' kb => by
      cases c with
      | true => exact thn (hb.run pins s' σ H1 σd G1 He E Q I' r1 (tk.trans k1) tx kb) fun u s2 ⟨v2, H2, d2, G2, I2, rv, n2, k2, r2, q2⟩ => ⟨v2, H2, d2, G2, I2, rv, n2, k1.trans k2, r2, q2⟩
      | false => exact ⟨x, H1, d, G1, I', rx, n1, k1, r1, kb⟩)⟩
theorem de_or (ha : DE X a ta) (hb : DE X (.BoolOp .Or (b :: rest) pos) tb) : DE X (.BoolOp .Or (a :: b :: rest) pos) (dOrV ta tb) :=
  ⟨fun pins s σ H σd G He E Q I r tk tx h => BoolOp_or (thn (ha.run pins s σ H σd G He E _ I r tk tx h) fun v s1 ⟨x, H1, d, G1, I1, rx, n1, k1, r1, q1⟩ =>
    tru_run I1 r1.ob n1 rx q1 fun c s' I' kb => by
      cases c with
      | false => exact thn (hb.run pins s' σ H1 σd G1 He E Q I' r1 (tk.trans k1) tx kb) fun u s2 ⟨v2, H2, d2, G2, I2, rv, n2, k2, r2, q2⟩ => ⟨v2, H2, d2, G2, I2, rv, n2, k1.trans k2, r2, q2⟩
      | true => exact ⟨x, H1, d, G1, I', rx, n1, k1, r1, kb⟩)⟩
theorem de_not (ha : DE X a ta) : DE X (.UnaryOp .Not a pos) (dNotV ta) :=
  ⟨fun pins s σ H σd G He E Q I r tk tx h => UnaryOp_ (thn (ha.run pins s σ H σd G He E _ I r tk tx h) fun v s1 ⟨x, H1, d, G1, I1, rx, n1, k1, r1, q1⟩ =>
    not_of (tru_run I1 r1.ob n1 rx q1 fun c s' I' kb => ⟨.bl (!c), H1, .bl (!c), G1, I', rfl, rfl, k1, r1, kb⟩))⟩
theorem de_ife (hc : DT X c t1) (ha : DE X a ta) (hb : DE X b tb) : DE X (.IfExp c a b pos) (dIfE t1 ta tb) :=
  ⟨fun pins s σ H σd G He E Q I r tk tx h => wpAny_IfExp (thn (hc.run pins s σ H σd G He E _ I r tk tx h) fun d s1 ⟨H1, G1, I1, k1, r1, q⟩ => by
    cases d with
    | true => exact thn (ha.run pins s1 σ H1 σd G1 He E Q I1 r1 (tk.trans k1) tx q) fun u s2 ⟨v2, H2, d2, G2, I2, rv, n2, k2, r2, q2⟩ => ⟨v2, H2, d2, G2, I2, rv, n2, k1.trans k2, r2, q2⟩
    | false => exact thn (hb.run pins s1 σ H1 σd G1 He E Q I1 r1 (tk.trans k1) tx q) fun u s2 ⟨v2, H2, d2, G2, I2, rv, n2, k2, r2, q2⟩ => ⟨v2, H2, d2, G2, I2, rv, n2, k1.trans k2, r2, q2⟩)⟩
/-! ### chains -/
theorem de_chain (hu : X.A.units + 64 < cLine) (o1 o2 : CmpOp) (ha : DE X a ta) (hb : DE X b tb) (hc : DE X c tc) (hm : lastMarks [o1, o2] [b, c] = false) : DE X (.Compare a [o1, o2] [b, c] pos) (dChain o1 o2 ta tb tc) :=
  ⟨fun pins s σ H σd G He E Q I r tk tx h => by
    refine Compare_chain (thn (ha.run pins s σ H σd G He E _ I r tk tx h) fun v s1 ⟨x, H1, d1, G1, I1, rx, n1, k1, r1, q1⟩ => chain_link (thn (hb.run pins s1 σ H1 σd G1 He E _ I1 r1 (tk.trans k1) tx q1) fun u s2 ⟨y, H2, d2, G2, I2, ry, n2, k2, r2, q2⟩ =>
      thn (cmp_ok hu o1 d1 d2 σ H2 σd G2 _ x y pins s2 v u I2 r2 (n1.keep k2) n2 rx ry (cmpR_cmp q2)) fun w s3 ⟨z, H3, I3, rz, d3, G3, n3, k3, r3, b, e1, e2, kb⟩ => ?_)) hm
    subst e1; subst e2
    cases n3
    cases rz
    refine wpAny_truthy_bool ?_
    cases b with
    | false => exact ite_ff ⟨.bl false, H3, .bl false, G3, I3, rfl, rfl, (k1.trans k2).trans k3, r3, kb⟩
    | true => exact ite_tt (chain_last (thn (hc.run pins s3 σ H3 σd G3 He E _ I3 r3 (((tk.trans k1).trans k2).trans k3) tx kb) fun w' s4 ⟨z', H4, d4, G4, I4, r4, n4, k4, r4', q4⟩ =>
        thn (cmp_ok hu o2 d2 d4 σ H4 σd G4 Q y z' pins s4 u w' I4 r4' ((n2.keep k3).keep k4) n4 ry r4 q4) fun u' s' zz => after (((k1.trans k2).trans k3).trans k4) zz))⟩
/-! ### arguments and displays -/
theorem da_nil : DA X [] dNil := ⟨fun pos pins s σ H σd G He E Q I r tk tx h => Calls.spliced_nil ⟨[], H, [], G, I, .nil, rfl, TK.refl, r, h⟩⟩
theorem da_cons (ha : DE X e te) (hr : DA X es t) (hs : starEach (e :: es) X.env = (false, eval e X.env) :: starEach es X.env) : DA X (e :: es) (dCons te t) := by
  refine ⟨fun pos pins s σ H σd G He E Q I r tk tx h => ?_⟩
  rw [hs]
  show wpAny _ _ (spliced ((false, eval e X.env) :: backTo pos (starEach es X.env))) _ _ s
  refine Calls.spliced_cons (thn (ha.run pins s σ H σd G He E _ I r tk tx h) fun u s1 ⟨x, H1, d1, G1, I1, rx, n1, k1, r1, q1⟩ => ?_)
  exact thn (hr.run pos pins s1 σ H1 σd G1 He E _ I1 r1 (tk.trans k1) tx q1) fun us s2 ⟨xs, H2, ds, G2, I2, rxs, ns, k2, r2, q2⟩ => ⟨x :: xs, H2, d1 :: ds, G2, I2, .cons rx rxs, DenL.cons (n1.keep k2) ns, k1.trans k2, r2, q2⟩
theorem de_tup {x1} (h : DA X es t) : DE X (.Tuple es x1 pos) (dTup t) :=
  DE.of (pe_tup h.pa) fun σ H σd G He E Q r tk tx h => ⟨σd, G, He, E, _, r, tk, tx, h, fun vs H1 ds G1 ns k1 r1 q1 => ⟨by rw [← ns.length]; exact q1.1, fun p hp => by
    obtain ⟨d, G', n, k2, r2, q2⟩ := resT r1 ns hp q1.2
    exact ⟨d, G', n, k1.trans k2, r2, q2⟩⟩⟩
theorem de_lst (h : DA X es t) : DE X (.List es pos) (dLst t) :=
  DE.of (pe_lst h.pa) fun σ H σd G He E Q r tk tx h => ⟨σd, G, He, E, _, r, tk, tx, h, fun vs H1 ds G1 ns k1 r1 q1 => ⟨by rw [← ns.length]; exact q1.1, fun p hp => by
    obtain ⟨d, G', n, k2, r2, q2⟩ := resL r1 ns hp q1.2
    exact ⟨d, G', n, k1.trans k2, r2, q2⟩⟩⟩
end
end DL
end
section
/-! D5: subscripts, slices, calls of the program's own defs. -/
namespace DL
open PySem PySem.Spec PyProof.Rows L2

def optD {α : Type} (o : Option α) (k : α → Prop) : Prop := match o with
  | some a => k a
  | none => False
theorem optD.at {α : Type} {o : Option α} {k : α → Prop} (h : optD o k) : ∃ a, o = some a ∧ k a := by
  cases o with
  | none => exact h.elim
  | some a => exact ⟨a, rfl, h⟩
theorem optD_some {α : Type} {o : Option α} {k : α → Prop} {a : α} (e : o = some a) (h : k a) : optD o k := by subst e; exact h
def lookD (kvs : List (Key × D)) (key : Key) : Option D := (kvs.find? fun kv => decide (kv.1 = key)).map (·.2)
def ixD (ds : List D) (y : D) (k : D → Prop) : Prop := match y with
  | .int i => optD (atI ds i) k
  | _ => False
def subD (x y : D) (G : Gp) (Q : KD) : Prop := match x with
  | .tup ds => ixD ds y fun d => Q d G
  | .fls ds => ixD ds y fun d => Q d G
  | .str z => match y with
    | .int i => z.length ≤ sizeLine ∧ optD (atI z.cps.toList i) fun c => Q (.str ⟨#[c]⟩) G
    | _ => False
  | .ref p => match G p with
    | some (.lst ds) => ixD ds y fun d => Q d G
    | some (.dk kvs) => optD (keyD y) fun key => optD (lookD kvs key) fun d => Q d G
    | _ => False
  | _ => False
theorem atI_den {K : PySem.W.Frag} {H : Hp} {ds : List D} {xs : List V} {i : Int} {d : D} (h : DenL K H ds xs) (e : atI ds i = some d) : ∃ v, atI xs i = some v ∧ Den K H d v := by
  unfold atI at e ⊢
  rw [← h.length]
  cases e2 : ixN ds.length i with
  | none => rw [e2] at e; cases e
  | some j =>
    rw [e2] at e
    exact h.get e
theorem lookD_den {K : PySem.W.Frag} {H : Hp} {key : Key} : ∀ {kvs : List (Key × D)} {ws : List (Key × V)} {d : D}, DenKV K H kvs ws → lookD kvs key = some d → ∃ v, valV ws key = some v ∧ Den K H d v
  | [], _, _, h, e => by cases e
  | (k0, d0) :: kvs, _, d, ⟨v, vs, e1, n, h2⟩, e => by
    subst e1
    unfold lookD at e
    unfold valV
    rw [List.find?_cons] at e ⊢
    by_cases hk : k0 = key
    · simp [hk] at e ⊢
      subst e
      exact n
    · simp [hk] at e ⊢
      obtain ⟨v', e1, e2⟩ := lookD_den (d := d) h2 (by unfold lookD; simpa using e)
      unfold valV at e1
      exact ⟨v', by simpa using e1, e2⟩
section
variable {X : Cx} {a b c e : Expr} {es : List Expr} {ta tb tc te : TED} {t : TAD} {pos : Pos}
theorem sub_ok (hu : X.A.units + 64 < cLine) (value slice : Expr) (x y : D) (σ : St) (H : Hp) (σd : SD) (G : Gp) (Q : KD) (vx vy : V) (pins : List (Addr × Obj)) (s : Shared) (u w : Value) (I : Inv X pins σ H s) (r : RS X.K σd G σ H)
    (hx : Den X.K H x vx) (hy : Den X.K H y vy) (ru : RelV vx u) (rw' : RelV vy w) (h : subD x y G Q) (hs : subscripted slice false u w = operate [u, w] (getItem u w)) :
    wpAny (model X.prog X.w) X.A (subscriptTail value slice u w) (EP X pins σ (Res X σ H σd Q)) X.xe s := by
  have fin : ∀ (r' : R2), IxR X r' → r' vx vy H (Res X σ H σd Q) → wpAny (model X.prog X.w) X.A (subscriptTail value slice u w) (EP X pins σ (Res X σ H σd Q)) X.xe s := fun r' ho hq => ho value slice pins s σ H vx vy u w _ I ru rw' hq hs
  have lst : ∀ (p : Addr) (ds : List D) (xs : List V), vx = .ref p → SqL X.K H p xs → DenL X.K H ds xs → ixD ds y (fun d => Q d G) → wpAny (model X.prog X.w) X.A (subscriptTail value slice u w) (EP X pins σ (Res X σ H σd Q)) X.xe s := fun p ds xs e hq hd hz => by
    subst e
    cases y with
    | int i =>
      cases hy
      obtain ⟨d, e, q⟩ := hz.at
      obtain ⟨v, e2, n⟩ := atI_den hd e
      exact fin _ ix_list ⟨p, xs, i, v, rfl, rfl, hq, e2, res r n q⟩
    | _ => exact hz.elim
  cases x with
  | tup ds =>
    cases y with
    | int i =>
      obtain ⟨p, xs, rfl, sx, dx⟩ := hx
      cases hy
      obtain ⟨d, e, q⟩ := h.at
      obtain ⟨v, e2, n⟩ := atI_den dx e
      exact fin _ ix_tup ⟨p, xs, i, v, rfl, rfl, sx, e2, res r n q⟩
    | _ => exact h.elim
  | fls ds =>
    obtain ⟨p, xs, e, sx, dx⟩ := hx
    exact lst p ds xs e sx.sql dx h
  | str z =>
    cases y with
    | int i =>
      cases hx; cases hy
      obtain ⟨c, e, q⟩ := h.2.at
      exact fin _ ix_str ⟨z, i, c, rfl, rfl, h.1, e, resS r q⟩
    | _ => exact h.elim
  | ref p =>
    simp only [subD] at h
    cases eg : G p with
    | none => rw [eg] at h; exact h.elim
    | some o =>
      rw [eg] at h
      have ro := r.ob p o eg
      cases o with
      | lst ds => obtain ⟨xs, h1, hd⟩ := ro; exact lst p ds xs hx (SqL.of h1) hd h
      | dk kvs =>
        obtain ⟨ws, h1, hd⟩ := ro
        obtain ⟨key, ek, h⟩ := h.at
        obtain ⟨d, e, q⟩ := h.at
        obtain ⟨v, e2, n⟩ := lookD_den hd e
        have hkv : vy = kV key := by
          cases y with
          | int i => cases ek; exact hy
          | str z => cases ek; exact hy
          | _ => cases ek
        cases hx
        obtain rfl : u = Value.ref p := ru
        subst hkv
        have g : DGet H p (kV key) (some v) := by rw [← e2]; exact DGet.k (k := key) h1
        exact tail_any (dict_typeIs I g) PySem.F.slot_dict_getitem.lookup (d_getItem (by omega) I g rw' fun w' s3 I3 r3 => ⟨v, H, I3, r3, res r n q⟩) hs
      | _ => exact h.elim
  | _ => exact h.elim
theorem de_sub (hu : X.A.units + 64 < cLine) (ha : DE X a ta) (hb : DE X b tb) (hs : PlainIx b) : DE X (.Subscript a b pos) (dOp2 subD ta tb) :=
  ⟨fun pins s σ H σd G He E Q I r tk tx h => Subscript_ (binT ha.pe hb.pe I (two r tk tx h) fun v u s2 x y H2 I2 rx ry ⟨dx, dy, G2, n1, n2, t2, r2, q⟩ =>
    thn (sub_ok hu a b dx dy σ H2 σd G2 Q x y pins s2 v u I2 r2 n1 n2 rx ry q (hs _ _)) fun u' s' z => after t2 z)⟩

/-! ### slices -/
def cutL {α : Type} (xs : List α) (lo hi : Option Int) : List α := (xs.drop (HT.sIx xs.length 0 lo)).take (HT.sIx xs.length xs.length hi - HT.sIx xs.length 0 lo)
theorem cutL_den {K : PySem.W.Frag} {H : Hp} {ds : List D} {xs : List V} (h : DenL K H ds xs) (lo hi : Option Int) : DenL K H (cutL ds lo hi) (cutV xs lo hi) := by
  unfold cutL cutV
  rw [h.length]
  exact DenL.take _ (DenL.drop _ h)
abbrev TOD := SD → Gp → (Option Int → Gp → Prop) → XD → Prop
structure DO (X : Cx) (e : Option Expr) (t : TOD) : Prop where
  run : ∀ (pins : List (Addr × Obj)) (s : Shared) (σ : St) (H : Hp) (σd : SD) (G : Gp) (He : Hp) (E : XD) (Q : Option Int → Gp → Prop), Inv X pins σ H s → RS X.K σd G σ H → TK He H → Takes X (WD X.K He E) → t σd G Q E →
    wpAny (model X.prog X.w) X.A (evalPart e X.env) (fun u s' => ∃ o H' G', Inv X pins σ H' s' ∧ IsPart u o ∧ TK H H' ∧ RS X.K σd G' σ H' ∧ Q o G') X.xe s
def dNoPart : TOD := fun _ G Q _ => Q none G
def dPart (te : TED) : TOD := fun σ G Q E => te σ G (fun x G1 => match x with | .int i => Q (some i) G1 | _ => False) E
def dnO (X : Cx) (t : TOD) : TO := fun σ H Q => ∃ σd G He E Qd, RS X.K σd G σ H ∧ TK He H ∧ Takes X (WD X.K He E) ∧ t σd G Qd E ∧ ∀ o H' G', TK H H' → RS X.K σd G' σ H' → Qd o G' → Q o H'
theorem do_none : DO X none dNoPart := ⟨fun pins s σ H σd G He E Q I r tk tx h => thn (po_none.run pins s σ H (fun o H' => o = none ∧ H' = H) I ⟨rfl, rfl⟩) fun u s' ⟨o, H', I', pt, e1, e2⟩ => by
  subst e1; subst e2; exact ⟨none, H', G, I', pt, TK.refl, r, h⟩⟩
theorem do_some (ha : DE X a ta) : DO X (some a) (dPart ta) := ⟨fun pins s σ H σd G He E Q I r tk tx h =>
  thn ((po_some ha.pe).run pins s σ H (fun o H' => ∃ G', TK H H' ∧ RS X.K σd G' σ H' ∧ Q o G') I ⟨σd, G, He, E, _, r, tk, tx, h, fun v H1 x G1 n1 k1 r1 q1 => by
    cases x with
    | int i => cases n1; exact ⟨i, rfl, G1, k1, r1, q1⟩
    | _ => exact (show False from q1).elim⟩) fun u s' ⟨o, H', I', pt, G', k', r', q'⟩ => ⟨o, H', G', I', pt, k', r', q'⟩⟩
theorem DO.po {e : Option Expr} {t : TOD} (h : DO X e t) : PO X e (dnO X t) := ⟨fun pins s σ H Q I ⟨σd, G, He, E, Qd, r, tk, tx, ht, hq⟩ =>
  thn (h.run pins s σ H σd G He E Qd I r tk tx ht) fun u s' ⟨o, H', G', I', pt, k', r', q⟩ => ⟨o, H', I', pt, hq o H' G' k' r' q⟩⟩
def sliD (x : D) (lo hi : Option Int) (G : Gp) (Q : KD) : Prop := match x with
  | .tup ds => Q (.tup (cutL ds lo hi)) G
  | .str z => z.length ≤ sizeLine ∧ Q (.str (cutS z lo hi)) G
  | .ref p => lsAt G p fun xs => ∀ q, G q = none → Q (.ref q) (up G q (.lst (cutL xs lo hi)))
  | _ => False
def dSli (te : TED) (tl th : TOD) : TED := fun σ G Q E => te σ G (fun x G1 => tl σ G1 (fun lo G2 => th σ G2 (fun hi G3 => sliD x lo hi G3 Q) E) E) E
theorem cut_whole {α : Type} {xs : List α} {lo hi : Option Int} (h : HT.sIx xs.length 0 lo = 0 ∧ HT.sIx xs.length xs.length hi = xs.length) : cutL xs lo hi = xs := by
  unfold cutL
  rw [h.1, h.2]
  simp
/-- all slices by one rule -/
theorem sl_all : SlR X (fun x lo hi H Q => rSlA X.K x lo hi H Q ∨ rSlS x lo hi H Q ∨ rSlL X.K x lo hi H Q) := SlR.or sl_tupA (SlR.or sl_str sl_list)
theorem de_sli {lo hi : Option Expr} {tl th : TOD} {p2 : Pos} (ha : DE X a ta) (hl : DO X lo tl) (hh : DO X hi th) : DE X (.Subscript a (.Slice lo hi none p2) pos) (dSli ta tl th) :=
  DE.of (pe_slice sl_all ha.pe hl.po hh.po) fun σ H σd G He E Q r tk tx h =>
    ⟨σd, G, He, E, _, r, tk, tx, h, fun v H1 x G1 n1 k1 r1 q1 => ⟨σd, G1, He, E, _, r1, tk.trans k1, tx, q1, fun l H2 G2 k2 r2 q2 => ⟨σd, G2, He, E, _, r2, (tk.trans k1).trans k2, tx, q2, fun u H3 G3 k3 r3 q3 => by
      have n3 := (n1.keep k2).keep k3
      have k13 := (k1.trans k2).trans k3
      cases x with
      | tup ds =>
        obtain ⟨p, xs, rfl, sx, dx⟩ := n3
        refine .inl ⟨p, xs, rfl, sx, fun hw => ?_, fun hw q hq => ?_⟩
        · have e : cutL ds l u = ds := cut_whole (by rw [dx.length]; exact hw)
          exact ⟨.tup ds, G3, ⟨p, xs, rfl, sx, dx⟩, k13, r3, by have q3 : Q (.tup (cutL ds l u)) G3 := q3; rw [e] at q3; exact q3⟩
        · obtain ⟨d, G', n, k4, r4, q4⟩ := resT (Q := Q) r3 (cutL_den dx l u) hq q3
          exact ⟨d, G', n, k13.trans k4, r4, q4⟩
      | str z => cases n3; exact .inr (.inl ⟨z, rfl, q3.1, .str _, G3, rfl, k13, r3, q3.2⟩)
      | ref p =>
        cases n3
        obtain ⟨ds, xs, hk, sq, hd, _⟩ := q3.sq r3.ob
        refine .inr (.inr ⟨p, xs, rfl, sq, fun q hq => ?_⟩)
        obtain ⟨d, G', n, k4, r4, q4⟩ := resL (Q := Q) r3 (cutL_den hd l u) hq hk
        exact ⟨d, G', n, k13.trans k4, r4, q4⟩
      | _ => exact (show False from q3).elim⟩⟩⟩

/-! ### calls of own defs -/
/-- a def's promise over plain data: arguments, store, what is wanted, what is wanted of an exception -/
abbrev SpD := List D → Gp → KD → (Addr → D → Gp → Prop) → Prop
def liftSp (K : PySem.W.Frag) (sp : SpD) : Sp := fun vs H Q E => ∃ ds G Qd Ed, DenL K H ds vs ∧ RG K G H ∧ sp ds G Qd Ed ∧ (∀ d G' v H', Qd d G' → Den K H' d v → TK H H' → RG K G' H' → Q v H') ∧
  (∀ C d G' dx vv H', Ed C d G' → H' dx = some (.xd [("value", vv)]) → Den K H' d vv → TK H H' → RG K G' H' → E (.ref C) (some dx) H')
/-- a def keeps its promise wherever nothing is being shown (no guard is up) -/
structure FnOkG (P : Program) (w : World) (K : PySem.W.Frag) (mg : Str → Option Value) (base : Heap) (k : Nat) (f : Addr) (fd : FuncData) (ps : List Str) (sp : Sp) : Prop where
  arity : ∀ {vs H Q E}, sp vs H Q E → vs.length = ps.length
  runs : ∀ {A : Around} {outer : List Env} {s : Shared} {H : Hp} {args : Args} {us : List Value} {vs : List V} {Q : VK} {E : XK}, Room k A → A.guards = some [] → Env0 P w K mg base A outer s H → BindsTo s fd args (ps.zip us) → Vals vs us → sp vs H Q E →
    codeAny (model P w) A (.call (.ref f) args) (CR (L2.CX P w) outer P w H s Q E) s
/-- the def named x keeps sp; dfl: the defaults that a call leaves open -/
structure FnG (P : Program) (w : World) (K : PySem.W.Frag) (mg : Str → Option Value) (base : Heap) (k : Nat) (x : Str) (sp : SpD) (dfl : List D) : Prop where
  ex : ∃ (f : Addr) (fd : FuncData) (ps : List Str) (dvs : List V) (ds : List Value), mg x = some (.ref f) ∧ PySem.W.keepIn K (.ref f) = true ∧ FnOkG P w K mg base k f fd ps (liftSp K sp) ∧ Binds K fd ps ds ∧ Vals dvs ds ∧ ∀ H : Hp, DenL K H dfl dvs
def dCall (sp : SpD) (dfl : List D) (t : TAD) : TED := fun σ G Q E => t σ G (fun ds G1 => sp (ds ++ dfl) G1 Q (fun C d G2 => E C d σ G2)) E
theorem run_fnD {k : Nat} {f : Addr} {fd : FuncData} {ps : List Str} {sp : Sp} {dvs : List V} {ds : List Value} {E : XK} {W : WX} {pins : List (Addr × Obj)} {σ : St} {H : Hp} {s : Shared} {Q : VK} {us : List Value} {vs : List V}
    (F : FnOkG X.prog X.w X.K X.mg X.base k f fd ps sp) (hr : Room k X.A) (hgd : X.A.guards = some []) (hb : Binds X.K fd ps ds) (hd : Vals dvs ds) (tk : Takes X W) (hW : ∀ cls d H', E cls d H' → W cls d σ H')
    (I : Inv X pins σ H s) (r : Vals vs us) (h : sp (vs ++ dvs) H Q E) : wpAny (model X.prog X.w) X.A (call (.ref f) us) (EP X pins σ Q) X.xe s := by
  have both : Vals (vs ++ dvs) (us ++ ds) := r.append hd
  have fit : (us ++ ds).length = ps.length := both.length ▸ F.arity h
  refine wpAny_call (codeAny_mono (F.runs hr hgd I.env0 (hb s us I.kIn fit) both h) fun out s' z => ?_)
  match out, z with
  | .error e, z => exact tk e s' (XE.of_call I hW z)
  | .ok (.ret u), z => exact I.after z
/-- what a promise over plain data wants, met -/
theorem meet {sp : SpD} {dfl : List D} {dvs : List V} {σ : St} {H H1 : Hp} {σd : SD} {G1 : Gp} {He : Hp} {E : XD} {Q : KD} {vs : List V} {ds : List D} (k1 : TK H H1) (tk : TK He H) (r1 : RS X.K σd G1 σ H1) (ns : DenL X.K H1 ds vs) (hdf : ∀ H : Hp, DenL X.K H dfl dvs)
    (h : sp (ds ++ dfl) G1 Q (fun C d G2 => E C d σd G2)) :
    ∃ E' : XK, (∀ cls d H', E' cls d H' → WD X.K He E cls d σ H') ∧ liftSp X.K sp (vs ++ dvs) H1 (Res X σ H σd Q) E' :=
  ⟨fun cls d H' => WD X.K He E cls d σ H', fun cls d H' z => z, ds ++ dfl, G1, Q, _, ns.append (hdf H1), r1.ob, h,
    fun d G' v H' q n k r => ⟨d, G', n, k1.trans k, r1.to k r, q⟩,
    fun C d G' dx vv H' q hx n k r => ⟨(tk.trans k1).trans k, C, d, dx, vv, σd, G', rfl, rfl, hx, n, r1.to k r, q⟩⟩
theorem de_call {k : Nat} {x : Str} {sp : SpD} {dfl : List D} {p : Pos} (F : FnG X.prog X.w X.K X.mg X.base k x sp dfl) (hr : Room k X.A) (hgd : X.A.guards = some []) (hg : Gl X x) (ha : DA X (e :: es) t) (hdb : (x == ("__debug__" : Str)) = false)
    (he : starEach (e :: es) X.env = (false, eval e X.env) :: starEach es X.env) (hpl : (backTo pos (starEach es X.env)).any (·.1) = false) : DE X (.Call (.Name x p) (e :: es) [] pos) (dCall sp dfl t) := by
  obtain ⟨f, fd, ps, dvs, ds, hm, hk, G, hb, hd, hdf⟩ := F.ex
  refine ⟨fun pins s σ H σd G0 He E Q I r tk tx h => ?_⟩
  refine wpAny_Call_Name_kw (ld_glob I hg hm ?_ hdb)
  refine PySem.W.callWith_K (h₀ := X.base) I.ok.mod.kin hk (thn (ha.run pos pins s σ H σd G0 He E _ I r tk tx h) fun us s1 ⟨vs, H1, ds1, G1, I1, rv, ns, k1, r1, q⟩ => ⟨I1.kIn, ?_⟩) he hpl
  obtain ⟨E', hE, hsp⟩ := meet (X := X) k1 tk r1 ns hdf q
  exact thn (run_fnD G hr hgd hb hd tx hE I1 rv hsp) fun u s' z => after TK.refl z
theorem de_call0 {k : Nat} {x : Str} {sp : SpD} {dfl : List D} {p : Pos} (F : FnG X.prog X.w X.K X.mg X.base k x sp dfl) (hr : Room k X.A) (hgd : X.A.guards = some []) (hg : Gl X x) (hdb : (x == ("__debug__" : Str)) = false) : DE X (.Call (.Name x p) [] [] pos) (dCall sp dfl dNil) := by
  obtain ⟨f, fd, ps, dvs, ds, hm, hk, G, hb, hd, hdf⟩ := F.ex
  refine ⟨fun pins s σ H σd G0 He E Q I r tk tx h => ?_⟩
  refine wpAny_Call_Name_kw (ld_glob I hg hm ?_ hdb)
  obtain ⟨E', hE, hsp⟩ := meet (X := X) (ds := []) (vs := []) TK.refl tk r rfl hdf h
  exact PySem.W.callWith_K0 I.kIn hk (thn (run_fnD (us := []) G hr hgd hb hd tx hE I .nil hsp) fun u s' z => after TK.refl z)
end
end DL
end
section
/-! D6: targets, statements, while. -/
namespace DL
open PySem PySem.Spec PyProof.Rows L2

abbrev TGD := D → SD → Gp → (SD → Gp → Prop) → XD → Prop
abbrev TGsD := List D → SD → Gp → (SD → Gp → Prop) → XD → Prop
section
variable (X : Cx)
/-- behind a store -/
abbrev GPd (pins : List (Addr × Obj)) (H : Hp) (Q : SD → Gp → Prop) (s' : Shared) : Prop := ∃ σ' H' σd' G', Inv X pins σ' H' s' ∧ TK H H' ∧ RS X.K σd' G' σ' H' ∧ Q σd' G'
structure DG (tg : Expr) (t : TGD) : Prop where
  run : ∀ (pins : List (Addr × Obj)) (s : Shared) (σ : St) (H : Hp) (σd : SD) (G : Gp) (He : Hp) (E : XD) (d : D) (v : V) (u : Value) (Q : SD → Gp → Prop), Inv X pins σ H s → RS X.K σd G σ H → TK He H → Takes X (WD X.K He E) → Den X.K H d v → RelV v u → t d σd G Q E →
    wpAny (model X.prog X.w) X.A (assign tg X.env u) (fun _ s' => GPd X pins H Q s') X.xe s
structure DGs (ts : List Expr) (t : TGsD) : Prop where
  run : ∀ (pins : List (Addr × Obj)) (s : Shared) (σ : St) (H : Hp) (σd : SD) (G : Gp) (He : Hp) (E : XD) (ds : List D) (vs : List V) (us : List Value) (Q : SD → Gp → Prop), Inv X pins σ H s → RS X.K σd G σ H → TK He H → Takes X (WD X.K He E) → DenL X.K H ds vs → Vals vs us → t ds σd G Q E →
    wpAny (model X.prog X.w) X.A (assignInOrder ((assignEach ts X.env).map (·.2)) us) (fun _ s' => GPd X pins H Q s') X.xe s
def dnG (t : TGD) : TG := fun v σ H Q => ∃ σd G He E d Qd, RS X.K σd G σ H ∧ TK He H ∧ Takes X (WD X.K He E) ∧ Den X.K H d v ∧ t d σd G Qd E ∧ ∀ σ' H' σd' G', TK H H' → RS X.K σd' G' σ' H' → Qd σd' G' → Q σ' H'
end
def gdName (i : Nat) : TGD := fun d σ G Q _ => Q (σ.set i (some d)) G
def gdNil : TGsD := fun ds σ G Q _ => match ds with
  | [] => Q σ G
  | _ => False
def gdCons (t : TGD) (u : TGsD) : TGsD := fun ds σ G Q E => match ds with
  | d :: r => t d σ G (fun σ1 G1 => u r σ1 G1 Q E) E
  | [] => False
def gdTup (n : Nat) (t : TGsD) : TGD := fun d σ G Q E => match d with
  | .tup ds => ds.length = n ∧ t ds σ G Q E
  | _ => False
def putD (kvs : List (Key × D)) (k : Key) (d : D) : List (Key × D) :=
  if (kvs.any fun kv => decide (kv.1 = k)) = true then kvs.map (fun kv => if kv.1 = k then (kv.1, d) else kv) else kvs ++ [(k, d)]
def setD (o i d : D) (G : Gp) (k : Gp → Prop) : Prop := match o with
  | .ref p => match G p with
    | some (.lst xs) => (match i with
      | .int n => optD (ixN xs.length n) fun j => k (up G p (.lst (xs.set j d)))
      | _ => False)
    | some (.dk kvs) => optD (keyD i) fun key => kvs.length < sizeLine ∧ k (up G p (.dk (putD kvs key d)))
    | _ => False
  | _ => False
def gdSub (to ti : TED) : TGD := fun d σ G Q E => to σ G (fun o G1 => ti σ G1 (fun i G2 => setD o i d G2 fun G3 => Q σ G3) E) E
theorem DenKV.any {K : PySem.W.Frag} {H : Hp} {κ : Type} {p : κ → Bool} : ∀ {r : List (κ × D)} {xs : List (κ × V)}, DenKV K H r xs → (r.any fun kv => p kv.1) = xs.any fun kv => p kv.1
  | [], _, h => by cases h; rfl
  | (k, d) :: r, _, ⟨v, vs, e, _, h2⟩ => by subst e; rw [List.any_cons, List.any_cons, DenKV.any h2]
theorem DenKV.map {K : PySem.W.Frag} {H : Hp} {d : D} {v : V} {k : Key} (n : Den K H d v) : ∀ {r : List (Key × D)} {xs : List (Key × V)}, DenKV K H r xs → DenKV K H (r.map fun kv => if kv.1 = k then (kv.1, d) else kv) (xs.map fun kv => if kv.1 = k then (kv.1, v) else kv)
  | [], _, h => by cases h; rfl
  | (k0, d0) :: r, _, ⟨v0, vs, e, h1, h2⟩ => by
    subst e
    rw [List.map_cons, List.map_cons]
    by_cases hk : k0 = k
    · rw [if_pos hk, if_pos hk]; exact ⟨v, _, rfl, n, DenKV.map n h2⟩
    · rw [if_neg hk, if_neg hk]; exact ⟨v0, _, rfl, h1, DenKV.map n h2⟩
theorem DenKV.append {K : PySem.W.Frag} {H : Hp} {κ : Type} : ∀ {r r' : List (κ × D)} {xs ys : List (κ × V)}, DenKV K H r xs → DenKV K H r' ys → DenKV K H (r ++ r') (xs ++ ys)
  | [], _, _, _, h, h' => by cases h; exact h'
  | (k, d) :: r, _, _, _, ⟨v, vs, e, h1, h2⟩, h' => by subst e; exact ⟨v, _, rfl, h1, DenKV.append h2 h'⟩
theorem DenKV.length {K : PySem.W.Frag} {H : Hp} {κ : Type} : ∀ {r : List (κ × D)} {xs : List (κ × V)}, DenKV K H r xs → r.length = xs.length
  | [], _, h => by cases h; rfl
  | (k, d) :: r, _, ⟨v, vs, e, h1, h2⟩ => by subst e; rw [List.length_cons, List.length_cons, DenKV.length h2]
theorem putD_den {K : PySem.W.Frag} {H : Hp} {d : D} {v : V} {k : Key} {r : List (Key × D)} {xs : List (Key × V)} (n : Den K H d v) (h : DenKV K H r xs) : DenKV K H (putD r k d) (putK xs k v) := by
  unfold putD putK
  have e : (r.any fun kv => decide (kv.1 = k)) = xs.any fun kv => decide (kv.1 = k) := DenKV.any (p := fun z => decide (z = k)) h
  rw [e]
  by_cases hc : (xs.any fun kv => decide (kv.1 = k)) = true
  · rw [if_pos hc, if_pos hc]; exact h.map n
  · rw [if_neg hc, if_neg hc]; exact h.append ⟨v, [], rfl, n, rfl⟩
theorem keyD_den {K : PySem.W.Frag} {H : Hp} {i : D} {vi : V} {key : Key} (h : Den K H i vi) (e : keyD i = some key) : vi = kV key := by
  cases i with
  | int i => cases e; exact h
  | str z => cases e; exact h
  | _ => cases e

section
variable {X : Cx} {a b c e tg : Expr} {es ts : List Expr} {ta tb tc te : TED} {t : TAD} {pos : Pos} {st : Stmt} {rest sa sb : List Stmt}
theorem DG.pg {t : TGD} (h : DG X tg t) : PG X tg (dnG X t) := ⟨fun pins s σ H v u Q I ru ⟨σd, G, He, E, d, Qd, r, tk, tx, n, ht, hq⟩ =>
  thn (h.run pins s σ H σd G He E d v u Qd I r tk tx n ru ht) fun _ s' ⟨σ', H', σd', G', I', k', r', q⟩ => ⟨σ', H', I', hq σ' H' σd' G' k' r' q⟩⟩
theorem dg_name {i : Nat} {x : Str} (hN : X.N.Nodup) (hi : X.N[i]? = some x) (hx : Loc X.env.scope x) (hf : X.fn x = true ∨ X.env.scope.names.lookup x = some .local) : DG X (.Name x pos) (gdName i) :=
  ⟨fun pins s σ H σd G He E d v u Q I r tk tx n ru h => wpAny_assign_Name (store_ok I hN hi hx ru (fun s' I' => ⟨_, H, _, G, I', TK.refl, r.set i n, h⟩) hf)⟩
theorem dgs_nil : DGs X [] gdNil := ⟨fun pins s σ H σd G He E ds vs us Q I r tk tx n ru h => by
  cases ds with
  | cons _ _ => exact h.elim
  | nil => cases n; cases ru; exact assignInOrder_nil ⟨σ, H, σd, G, I, TK.refl, r, h⟩⟩
theorem dgs_cons {t : TGD} {u : TGsD} (h1 : DG X e t) (h2 : DGs X es u) (hs : (assignEach (e :: es) X.env).map (·.2) = assign e X.env :: (assignEach es X.env).map (·.2)) : DGs X (e :: es) (gdCons t u) := by
  refine ⟨fun pins s σ H σd G He E ds vs us Q I r tk tx n ru h => ?_⟩
  cases ds with
  | nil => exact h.elim
  | cons d ds =>
    obtain ⟨v, vs', rfl, n1, n2⟩ := n
    cases ru with
    | cons ru rr =>
      rw [hs]
      refine assignInOrder_cons (thn (h1.run pins s σ H σd G He E d v _ _ I r tk tx n1 ru h) fun _ s1 ⟨σ1, H1, σd1, G1, I1, k1, r1, q1⟩ => ?_)
      exact thn (h2.run pins s1 σ1 H1 σd1 G1 He E ds vs' _ Q I1 r1 (tk.trans k1) tx (n2.keep k1) rr q1) fun _ s2 ⟨σ2, H2, σd2, G2, I2, k2, r2, q2⟩ => ⟨σ2, H2, σd2, G2, I2, k1.trans k2, r2, q2⟩
theorem dg_tup {k : Nat} {t : TGsD} {n : Nat} (hc : X.calm = true) (h : DGs X es t) (hn : (assignEach es X.env).length = n) (hst : (assignEach es X.env).findIdx? (·.1) = none) : DG X (.Tuple es k pos) (gdTup n t) := by
  refine ⟨fun pins s σ H σd G He E d v u Q I r tk tx nd ru hw => ?_⟩
  cases d with
  | tup ds =>
    obtain ⟨a, xs, rfl, hq, dx⟩ := nd
    obtain ⟨hl, hw⟩ := hw
    cases ru
    obtain ⟨its, rv, ht, hz⟩ := I.tuple hq
    refine assign_Tuple_tuple (I.ok.hd hc) ht (by simp [hn, ← hl, dx.length, rv.length]) hst fun h' hx => ?_
    have I1 : Inv X pins σ H { s with heap := h' } := I.kept (t' := s.toks) fun b o e => hx b o (Nat.ne_of_lt (Heap.lt_size e)) e
    exact h.run pins _ σ H σd G He E ds xs _ Q I1 r tk tx dx (by simpa using rv) hw
  | _ => exact hw.elim
theorem set_run (hu : X.A.units + 64 < cLine) {pins : List (Addr × Obj)} {s : Shared} {σ : St} {H : Hp} {σd : SD} {G : Gp} {o i d : D} {vo vi v : V} {uo ui u : Value} {k : Gp → Prop} {Q : Unit → Shared → Prop} (I : Inv X pins σ H s) (r : RS X.K σd G σ H)
    (no : Den X.K H o vo) (ni : Den X.K H i vi) (n : Den X.K H d v) (ro : RelV vo uo) (ri : RelV vi ui) (rv : RelV v u) (h : setD o i d G k)
    (hq : ∀ s' H' G', Inv X pins σ H' s' → TK H H' → RS X.K σd G' σ H' → k G' → Q () s') : wpAny (model X.prog X.w) X.A (setItem uo ui u) Q X.xe s := by
  cases o with
  | ref p =>
    cases no
    simp only [setD] at h
    cases eg : G p with
    | none => rw [eg] at h; exact h.elim
    | some ob =>
      rw [eg] at h
      have ro' := r.ob p ob eg
      cases ob with
      | lst xs =>
        obtain ⟨ws, hH, dx⟩ := ro'
        cases i with
        | int m =>
          cases ni
          obtain ⟨j, ej, hk⟩ := h.at
          refine thn (set_list pins s σ H (.ref p) (.int m) v uo ui u (fun H' => H' = upd H p (.lst (ws.set j v))) I ro ri rv ⟨p, ws, m, j, rfl, rfl, hH, by rw [← dx.length]; exact ej, rfl⟩) fun _ s' ⟨H', I', e⟩ => ?_
          subst e
          exact hq s' _ (up G p (.lst (xs.set j d))) I' (TK.mut hH trivial) (r.to (TK.mut hH trivial) (r.ob.put hH trivial ⟨_, upd_same, (DenL.set j dx n).keep (TK.mut hH trivial)⟩)) hk
        | _ => exact h.elim
      | dk kvs =>
        obtain ⟨ws, hH, dx⟩ := ro'
        obtain ⟨key, ek, hl, hk⟩ := h.at
        have ev := keyD_den ni ek
        subst ev
        obtain rfl : uo = Value.ref p := ro
        refine d_setItem (H' := upd H p (.dK (putK ws key v))) (by omega) I (DPut.k (k := key) hH (by rw [← dx.length]; exact hl)) ri rv fun s' I' => ?_
        exact hq s' _ (up G p (.dk (putD kvs key d))) I' (TK.mut hH trivial) (r.to (TK.mut hH trivial) (r.ob.put hH trivial ⟨_, upd_same, (putD_den n dx).keep (TK.mut hH trivial)⟩)) hk
      | _ => exact h.elim
  | _ => exact h.elim
theorem dg_sub (hu : X.A.units + 64 < cLine) (ha : DE X a ta) (hb : DE X b tb)
    (hw : ∀ v, assign (.Subscript a b pos) X.env v = (do
      let ov ← holding [v] (eval a X.env)
      let iv ← holding [v, ov] (eval b X.env)
      standAt pos
      holding [v, ov, iv] (setItem ov iv v)
      release [v, ov, iv] [])) : DG X (.Subscript a b pos) (gdSub ta tb) := by
  refine ⟨fun pins s σ H σd G He E d v u Q I r tk tx n ru h => ?_⟩
  rw [hw]
  refine wpAny_bind (wpAny_holding (thn (ha.run pins s σ H σd G He E _ I r tk tx h) fun ov s1 ⟨x, H1, d1, G1, I1, rx, n1, k1, r1, q1⟩ => ?_))
  refine wpAny_bind (wpAny_holding (thn (hb.run pins s1 σ H1 σd G1 He E _ I1 r1 (tk.trans k1) tx q1) fun iv s2 ⟨y, H2, d2, G2, I2, ry, n2, k2, r2, q2⟩ => ?_))
  refine wpAny_bind (wpAny_standAt (wpAny_bind (wpAny_holding (set_run hu I2 r2 (n1.keep k2) n2 ((n.keep k1).keep k2) rx ry ru q2 fun s3 H3 G3 I3 k3 r3 q3 => ?_))))
  exact wpAny_release ⟨σ, H3, σd, G3, I3, (k1.trans k2).trans k3, r3, q3⟩

/-! ### statements -/
def sSeq (t u : TSD) : TSD := fun D σ G => t { D with nx := u D } σ G
def sNext : TSD := fun D σ G => D.nx σ G
def sBreak : TSD := fun D σ G => D.bk σ G
def sCont : TSD := fun D σ G => D.ct σ G
def sDrop (te : TED) : TSD := fun D σ G => te σ G (fun _ G1 => D.nx σ G1) D.ex
def sRet (te : TED) : TSD := fun D σ G => te σ G D.rt D.ex
def sRetN : TSD := fun D _ G => D.rt .non G
def sIf (c : TTD) (t u : TSD) : TSD := fun D σ G => c σ G (fun b G1 => if b = true then t D σ G1 else u D σ G1) D.ex
def sAsg (te : TED) (g : TGD) : TSD := fun D σ G => te σ G (fun d G1 => g d σ G1 D.nx D.ex) D.ex
def sNever : TSD := fun _ _ _ => False
theorem dss_nil : DSs X [] sNext := ⟨fun pins s σ H σd G He D I r tk tx h => wpAny_execs_nil ⟨σ, H, σd, G, I, TK.refl, r, h⟩⟩
theorem SPd.from {pins : List (Addr × Obj)} {H H1 : Hp} {D : EndsD} {f : Flow} {s' : Shared} (k : TK H H1) (h : SPd X pins H1 D f s') : SPd X pins H D f s' := by
  cases f with
  | next => obtain ⟨σ', H', σd', G', I', k', r', q⟩ := h; exact ⟨σ', H', σd', G', I', k.trans k', r', q⟩
  | brk => obtain ⟨σ', H', σd', G', I', k', r', q⟩ := h; exact ⟨σ', H', σd', G', I', k.trans k', r', q⟩
  | cont => obtain ⟨σ', H', σd', G', I', k', r', q⟩ := h; exact ⟨σ', H', σd', G', I', k.trans k', r', q⟩
  | ret u => obtain ⟨v, σ', H', d, G', I', rv, n, k', r', q⟩ := h; exact ⟨v, σ', H', d, G', I', rv, n, k.trans k', r', q⟩
theorem dss_cons {t u : TSD} (h1 : DS X st t) (h2 : DSs X rest u) : DSs X (st :: rest) (sSeq t u) := by
  refine ⟨fun pins s σ H σd G He D I r tk tx h => ?_⟩
  refine wpAny_execs_cons (thn (h1.run pins s σ H σd G He { D with nx := u D } I r tk tx h) fun f s1 q => ?_)
  cases f with
  | next =>
    obtain ⟨σ1, H1, σd1, G1, I1, k1, r1, q⟩ := q
    exact thn (h2.run pins s1 σ1 H1 σd1 G1 He D I1 r1 (tk.trans k1) tx q) fun f s2 q2 => q2.from k1
  | brk => exact q
  | cont => exact q
  | ret u => exact q
theorem ds_pass : DS X (.Pass pos) sNext := ⟨fun pins s σ H σd G He D I r tk tx h => wpAny_Pass ⟨σ, H, σd, G, I, TK.refl, r, h⟩⟩
theorem ds_break : DS X (.Break pos) sBreak := ⟨fun pins s σ H σd G He D I r tk tx h => wpAny_Break ⟨σ, H, σd, G, I, TK.refl, r, h⟩⟩
theorem ds_cont : DS X (.Continue pos) sCont := ⟨fun pins s σ H σd G He D I r tk tx h => wpAny_Continue ⟨σ, H, σd, G, I, TK.refl, r, h⟩⟩
theorem ds_expr (he : DE X e te) (hs : swapsWith e none pos.line X.env = pure false) : DS X (.Expr e pos) (sDrop te) :=
  ⟨fun pins s σ H σd G He D I r tk tx h => wpAny_Expr_any (thn (he.run pins s σ H σd G He D.ex _ I r tk tx h) fun v s1 ⟨x, H1, d, G1, I1, rx, n1, k1, r1, q1⟩ => ⟨σ, H1, σd, G1, I1, k1, r1, q1⟩) I.quiet hs⟩
theorem ds_ret (he : DE X e te) : DS X (.Return (some e) pos) (sRet te) :=
  ⟨fun pins s σ H σd G He D I r tk tx h => wpAny_Return_some (thn (he.run pins s σ H σd G He D.ex _ I r tk tx h) fun v s1 ⟨x, H1, d, G1, I1, rx, n1, k1, r1, q1⟩ => ⟨x, σ, H1, d, G1, I1, rx, n1, k1, r1.ob, q1⟩)⟩
theorem ds_retN : DS X (.Return none pos) sRetN := ⟨fun pins s σ H σd G He D I r tk tx h => wpAny_Return_none ⟨.non, σ, H, .non, G, I, rfl, rfl, TK.refl, r.ob, h⟩⟩
theorem ds_if {tc : TTD} {t u : TSD} (hc : DT X c tc) (ha : DSs X sa t) (hb : DSs X sb u) : DS X (.If c sa sb pos) (sIf tc t u) :=
  ⟨fun pins s σ H σd G He D I r tk tx h => wpAny_If (thn (hc.run pins s σ H σd G He D.ex _ I r tk tx h) fun d s1 ⟨H1, G1, I1, k1, r1, q⟩ => by
    cases d with
    | true => exact thn (ha.run pins s1 σ H1 σd G1 He D I1 r1 (tk.trans k1) tx q) fun f s2 q2 => q2.from k1
    | false => exact thn (hb.run pins s1 σ H1 σd G1 He D I1 r1 (tk.trans k1) tx q) fun f s2 q2 => q2.from k1)⟩
theorem ds_asg {g : TGD} (he : DE X e te) (hg : DG X tg g) (hs : swapsWithSole [tg] e pos.line X.env = pure false) (hw : swappedStores [tg] e X.env = pure none) (h1 : (assignEach [tg] X.env).map (·.2) = [assign tg X.env]) : DS X (.Assign [tg] e pos) (sAsg te g) := by
  refine ⟨fun pins s σ H σd G He D I r tk tx h => ?_⟩
  refine wpAny_Assign_stores (thn (he.run pins s σ H σd G He D.ex _ I r tk tx h) fun v s1 ⟨x, H1, d, G1, I1, rx, n1, k1, r1, q1⟩ => ?_) hs hw
  rw [h1]
  exact thn (hg.run pins s1 σ H1 σd G1 He D.ex d x v _ I1 r1 (tk.trans k1) tx n1 rx q1) fun _ s2 ⟨σ2, H2, σd2, G2, I2, k2, r2, q2⟩ => ⟨σ2, H2, σd2, G2, I2, k1.trans k2, r2, q2⟩
theorem ds_never : DS X st sNever := ⟨fun pins s σ H σd G He D I r tk tx h => h.elim⟩
/-- a, b = e1, e2 -/
def sPar (i j : Nat) (t : TAD) : TSD := fun D σ G => t σ G (fun ds G1 => match ds with
  | [v, w] => D.nx ((σ.set i (some v)).set j (some w)) G1
  | _ => False) D.ex
theorem ds_par {i j : Nat} {x y : Str} {px py pt : Pos} {kt k2 pt2} (hc : X.calm = true) (hN : X.N.Nodup) (hi : X.N[i]? = some x) (hj : X.N[j]? = some y) (hij : i ≠ j)
    (hx : X.env.scope.names.lookup x = some .local) (hy : X.env.scope.names.lookup y = some .local) (ha : DA X [a, b] t)
    (hw : swappedStores [.Tuple [.Name x px, .Name y py] kt pt] (.Tuple [a, b] k2 pt2) X.env = pure (some [x, y]))
    (hs : swapsWithSole [.Tuple [.Name x px, .Name y py] kt pt] (.Tuple [a, b] k2 pt2) pos.line X.env = pure false) :
    DS X (.Assign [.Tuple [.Name x px, .Name y py] kt pt] (.Tuple [a, b] k2 pt2) pos) (sPar i j t) :=
  DS.of (ps_par hc hN hi hj hij hx hy ha.pa hw hs) fun σ H σd G He D r tk tx h => ⟨σd, G, He, D.ex, _, r, tk, tx, h, fun vs H1 ds G1 ns k1 r1 q1 => by
    match ds, ns, q1 with
    | [d1, d2], ns, q1 =>
      obtain ⟨v, vs1, rfl, n1, w, vs2, rfl, n2, e⟩ := ns
      cases e
      exact ⟨v, w, rfl, _, G1, k1, (r1.set i n1).set j n2, q1⟩
    | [], _, q1 => exact q1.elim
    | [_], _, q1 => exact q1.elim
    | _ :: _ :: _ :: _, _, q1 => exact q1.elim⟩
def sPar3 (i j l : Nat) (t : TAD) : TSD := fun D σ G => t σ G (fun ds G1 => match ds with
  | [v, w, z] => D.nx (((σ.set i (some v)).set j (some w)).set l (some z)) G1
  | _ => False) D.ex
/-! ### while -/
/-- W: what holds ahead of each turn, with a measure -/
def sWhile (c : TTD) (tb : TSD) : TSD := fun D σ G => ∃ W : Nat → SD → Gp → Prop, (∃ m, W m σ G) ∧ ∀ m σ G, W m σ G →
  c σ G (fun b G1 => if b = true then tb { D with nx := fun σ' G' => ∃ m', m' < m ∧ W m' σ' G', ct := fun σ' G' => ∃ m', m' < m ∧ W m' σ' G', bk := D.nx } σ G1 else D.nx σ G1) D.ex
theorem ds_while {tc : TTD} {tb : TSD} (hp : PassesOwn (model X.prog X.w) X.A X.env X.xe) (hc : DT X c tc) (hb : DSs X sa tb) : DS X (.While c sa [] pos) (sWhile tc tb) :=
  DS.of (ps_while hp hc.pt hb.pss) fun σ H σd G He D r tk tx ⟨W, ⟨m0, w0⟩, turn⟩ => ⟨fun m σ' H' => ∃ σd' G', TK H H' ∧ RS X.K σd' G' σ' H' ∧ W m σd' G', ⟨m0, σd, G, TK.refl, r, w0⟩, fun m σ1 H1 ⟨σd1, G1, k1, r1, w1⟩ =>
    ⟨σd1, G1, He, D.ex, _, r1, tk.trans k1, tx, turn m σd1 G1 w1, fun b H2 G2 k2 r2 q2 => by
      cases b with
      | true =>
        rw [if_pos rfl]
        refine ⟨fun σ' H' => ∃ σd' G', TK H H' ∧ RS X.K σd' G' σ' H' ∧ ∃ m', m' < m ∧ W m' σd' G', fun σ' H' ⟨σd', G', k', r', m', hm, w'⟩ => ⟨m', hm, σd', G', k', r', w'⟩, ?_⟩
        have k12 := k1.trans k2
        exact ⟨σd1, G2, He, { D with nx := fun σ' G' => ∃ m', m' < m ∧ W m' σ' G', ct := fun σ' G' => ∃ m', m' < m ∧ W m' σ' G', bk := D.nx }, r2, (tk.trans k1).trans k2, tx, q2, fun σ' H' σd' G' k' r' n' => ⟨σd', G', k12.trans k', r', n'⟩, fun σ' H' σd' G' k' r' n' => ⟨σd', G', k12.trans k', r', n'⟩,
          fun σ' H' σd' G' k' r' n' => ⟨σd', G', k12.trans k', r', n'⟩, fun v H' d G' n k' r' q => ⟨d, G', n, k12.trans k', r', q⟩⟩
      | false =>
        rw [if_neg Bool.false_ne_true]
        exact ⟨σd1, G2, k1.trans k2, r2, q2⟩⟩⟩
end
end DL
end
section
/-! D7: what is walked, for, list comprehensions. -/
namespace DL
open PySem PySem.Spec PyProof.Rows L2

/-- what is walked: the items, and what must hold of the store at each turn -/
structure ItD where
  xs : List D
  ok : Gp → Prop
abbrev TID := SD → Gp → (ItD → Gp → Prop) → XD → Prop
/-- J walks it, from the heap H0 on -/
structure JR (K : PySem.W.Frag) (H0 : Hp) (J : It) (it : ItD) : Prop where
  go : ∀ (i : Nat) (G : Gp) (H : Hp), TK H0 H → RG K G H → it.ok G → i < it.xs.length → J.go i H
  yld : ∀ (i : Nat) (G : Gp) (H : Hp) (x : V) (H' : Hp), TK H0 H → RG K G H → it.ok G → i < it.xs.length → J.yld i H x H' → TK H H' ∧ RG K G H' ∧ ∃ d, it.xs[i]? = some d ∧ Den K H' d x
  stop : ∀ (i : Nat) (G : Gp) (H : Hp), TK H0 H → RG K G H → it.ok G → it.xs.length ≤ i → J.stop i H
structure DI (X : Cx) (tg iter : Expr) (t : TID) : Prop where
  run : ∀ (pins : List (Addr × Obj)) (s : Shared) (σ : St) (H : Hp) (σd : SD) (G : Gp) (He : Hp) (E : XD) (R : ItD → Gp → Prop), Inv X pins σ H s → RS X.K σd G σ H → TK He H → Takes X (WD X.K He E) → t σd G R E →
    wpAny (model X.prog X.w) X.A (eval iter X.env) (fun v s1 => wpAny (model X.prog X.w) X.A (pyIter v) (PIE X pins σ tg fun J H' => ∃ it G', JR X.K H' J it ∧ TK H H' ∧ RS X.K σd G' σ H' ∧ R it G') X.xe s1) X.xe s
def dnI (X : Cx) (t : TID) : TI := fun σ H R => ∃ σd G He E Rd, RS X.K σd G σ H ∧ TK He H ∧ Takes X (WD X.K He E) ∧ t σd G Rd E ∧ ∀ J it H' G', JR X.K H' J it → TK H H' → RS X.K σd G' σ H' → Rd it G' → R J H'
section
variable {X : Cx} {tg iter e a b : Expr} {te ta tb : TED}
theorem PIE.imp {pins : List (Addr × Obj)} {σ : St} {R R' : It → Hp → Prop} {v : Value} {s : Shared} (h : PIE X pins σ tg R v s) (f : ∀ J H', R J H' → R' J H') : PIE X pins σ tg R' v s :=
  let ⟨it, fp, tn, J, H', e, I, T, t0, fo, r⟩ := h
  ⟨it, fp, tn, J, H', e, I, T, t0, fo, f J H' r⟩
theorem DI.pi {t : TID} (h : DI X tg iter t) : PI X tg iter (dnI X t) := ⟨fun pins s σ H R I ⟨σd, G, He, E, Rd, r, tk, tx, ht, hq⟩ =>
  thn (h.run pins s σ H σd G He E Rd I r tk tx ht) fun v s1 h1 => thn h1 fun w s2 z => PIE.imp z fun J H' ⟨it, G', j, k, r', q⟩ => hq J it H' G' j k r' q⟩
theorem DI.of {wi : TI} {t : TID} (h : PI X tg iter wi) (f : ∀ (σ : St) (H : Hp) (σd : SD) (G : Gp) (He : Hp) (E : XD) (R : ItD → Gp → Prop), RS X.K σd G σ H → TK He H → Takes X (WD X.K He E) → t σd G R E →
    wi σ H fun J H' => ∃ it G', JR X.K H' J it ∧ TK H H' ∧ RS X.K σd G' σ H' ∧ R it G') : DI X tg iter t :=
  ⟨fun pins s σ H σd G He E R I r tk tx ht => h.run pins s σ H _ I (f σ H σd G He E R r tk tx ht)⟩

/-! ### lists, tuples, texts by their value -/
def okL (p : Addr) (ds : List D) (G : Gp) : Prop := G p = some (.lst ds)
def signs (z : Str) : List D := z.cps.toList.map fun c => .str ⟨#[c]⟩
def itOf (x : D) (G : Gp) (R : ItD → Prop) : Prop := match x with
  | .tup ds => R ⟨ds, fun _ => True⟩
  | .fls ds => R ⟨ds, fun _ => True⟩
  | .str z => R ⟨signs z, fun _ => True⟩
  | .ref p => lsAt G p fun ds => R ⟨ds, okL p ds⟩
  | _ => False
def iVal (te : TED) : TID := fun σ G R E => te σ G (fun x G1 => itOf x G1 fun it => R it G1) E
theorem okL.sq {K : PySem.W.Frag} {G : Gp} {H : Hp} {p : Addr} {ds : List D} (r : RG K G H) (h : okL p ds G) : ∃ xs, SqL K H p xs ∧ DenL K H ds xs := by
  obtain ⟨xs, h1, h2⟩ := r p _ h
  exact ⟨xs, SqL.of h1, h2⟩
theorem jr_fls {K : PySem.W.Frag} {H0 : Hp} {p : Addr} {ds : List D} {xs : List V} (hs : SqF K H0 p xs) (hd : DenL K H0 ds xs) : JR K H0 (Itl K p) ⟨ds, fun _ => True⟩ where
  go := fun i G H k r ok hi => by
    obtain ⟨v, e, _⟩ := hd.get (List.getElem?_eq_getElem hi)
    exact ⟨xs, v, (hs.keep k).sql, e⟩
  yld := fun i G H x H' k r ok hi y => by
    obtain ⟨rfl, y⟩ := y
    obtain ⟨v, e, n⟩ := hd.get (List.getElem?_eq_getElem hi)
    have := y xs (hs.keep k).sql
    rw [e] at this; cases this
    exact ⟨TK.refl, r, _, List.getElem?_eq_getElem hi, n.keep k⟩
  stop := fun i G H k r ok hi => ⟨xs, (hs.keep k).sql, by rw [← hd.length]; exact hi⟩
theorem jr_list {K : PySem.W.Frag} {H0 : Hp} {p : Addr} {ds : List D} : JR K H0 (Itl K p) ⟨ds, okL p ds⟩ where
  go := fun i G H _ r ok hi => by
    obtain ⟨xs, h1, h2⟩ := okL.sq r ok
    obtain ⟨v, e, _⟩ := h2.get (List.getElem?_eq_getElem hi)
    exact ⟨xs, v, h1, e⟩
  yld := fun i G H x H' _ r ok hi y => by
    obtain ⟨xs, h1, h2⟩ := okL.sq r ok
    obtain ⟨rfl, y⟩ := y
    obtain ⟨v, e, n⟩ := h2.get (List.getElem?_eq_getElem hi)
    have := y xs h1
    rw [e] at this; cases this
    exact ⟨TK.refl, r, _, List.getElem?_eq_getElem hi, n⟩
  stop := fun i G H _ r ok hi => by
    obtain ⟨xs, h1, h2⟩ := okL.sq r ok
    exact ⟨xs, h1, by rw [← h2.length]; exact hi⟩
theorem jr_str {K : PySem.W.Frag} {H0 : Hp} {z : Str} : JR K H0 (Its z) ⟨signs z, fun _ => True⟩ where
  go := fun i G H _ r ok hi => show i < z.cps.size by simpa [signs] using hi
  yld := fun i G H x H' _ r ok hi y => by
    obtain ⟨rfl, c, e, rfl⟩ := y
    refine ⟨TK.refl, r, .str ⟨#[c]⟩, ?_, rfl⟩
    simp only [signs, List.getElem?_map, Array.getElem?_toList, e, Option.map_some]
  stop := fun i G H _ r ok hi => show z.cps.size ≤ i by simpa [signs] using hi
theorem jr_tup {K : PySem.W.Frag} {H0 : Hp} {p : Addr} {ds : List D} {xs : List V} (hs : SqT K H0 p xs) (hd : DenL K H0 ds xs) : JR K H0 (Itt K p) ⟨ds, fun _ => True⟩ where
  go := fun i G H k r ok hi => by
    obtain ⟨v, e, _⟩ := hd.get (List.getElem?_eq_getElem hi)
    exact ⟨xs, v, SqT.keep k hs, e⟩
  yld := fun i G H x H' k r ok hi y => by
    obtain ⟨rfl, y⟩ := y
    obtain ⟨v, e, n⟩ := hd.get (List.getElem?_eq_getElem hi)
    have := y xs (SqT.keep k hs)
    rw [e] at this; cases this
    exact ⟨TK.refl, r, _, List.getElem?_eq_getElem hi, n.keep k⟩
  stop := fun i G H k r ok hi => ⟨xs, SqT.keep k hs, by rw [← hd.length]; exact hi⟩
theorem jr_rng {K : PySem.W.Frag} {H0 : Hp} {lo : Int} {n : Nat} : JR K H0 (Itr lo n) ⟨(List.range n).map fun i => .int (lo + (i : Nat)), fun _ => True⟩ where
  go := fun i G H _ r ok hi => show i < n by simpa using hi
  yld := fun i G H x H' _ r ok hi y => by
    obtain ⟨rfl, rfl⟩ := y
    have hi : i < n := by simpa using hi
    exact ⟨TK.refl, r, .int (lo + (i : Nat)), by simp [List.getElem?_map, hi], rfl⟩
  stop := fun i G H _ r ok hi => show n ≤ i by simpa using hi
/-- enumerate's pairs -/
def pairsE (ds : List D) : List D := ds.mapIdx fun i d => .tup [.int (i : Nat), d]
theorem jr_enum {K : PySem.W.Frag} {H0 : Hp} {p : Addr} {ds : List D} : JR K H0 (Ite K p) ⟨pairsE ds, okL p ds⟩ where
  go := fun i G H _ r ok hi => by
    have hi : i < ds.length := by simpa [pairsE] using hi
    obtain ⟨xs, h1, h2⟩ := okL.sq r ok
    obtain ⟨v, e, _⟩ := h2.get (List.getElem?_eq_getElem hi)
    exact ⟨xs, v, h1, e⟩
  yld := fun i G H x H' _ r ok hi y => by
    have hi : i < ds.length := by simpa [pairsE] using hi
    obtain ⟨xs, h1, h2⟩ := okL.sq r ok
    obtain ⟨T, x', rfl, hT, rfl, y⟩ := y
    obtain ⟨v, e, n⟩ := h2.get (List.getElem?_eq_getElem hi)
    have := y xs h1
    rw [e] at this; cases this
    refine ⟨TK.new hT, r.aside hT, .tup [.int (i : Nat), ds[i]], by simp [pairsE, hi], T, _, rfl, SqT.of upd_same, ?_⟩
    exact DenL.cons rfl (DenL.one (n.keep (TK.new hT)))
  stop := fun i G H _ r ok hi => by
    have hi : ds.length ≤ i := by simpa [pairsE] using hi
    obtain ⟨xs, h1, h2⟩ := okL.sq r ok
    exact ⟨xs, h1, by rw [← h2.length]; exact hi⟩
theorem di_val (he : DE X e te) : DI X tg e (iVal te) := by
  refine ⟨fun pins s σ H σd G He E R I r tk tx h => ?_⟩
  refine thn (he.run pins s σ H σd G He E _ I r tk tx h) fun v s1 ⟨x, H1, d, G1, I1, rx, n1, k1, r1, q1⟩ => ?_
  have one : ∀ (wi : V → Hp → (It → Hp → Prop) → Prop), (∀ (pins : List (Addr × Obj)) (s : Shared) (σ : St) (H : Hp) (x : V) (v : Value) (R : It → Hp → Prop), Inv X pins σ H s → RelV x v → wi x H R → wpAny (model X.prog X.w) X.A (pyIter v) (PIE X pins σ tg R) X.xe s) →
      wi x H1 (fun J H' => ∃ it G', JR X.K H' J it ∧ TK H H' ∧ RS X.K σd G' σ H' ∧ R it G') → wpAny (model X.prog X.w) X.A (pyIter v) (PIE X pins σ tg fun J H' => ∃ it G', JR X.K H' J it ∧ TK H H' ∧ RS X.K σd G' σ H' ∧ R it G') X.xe s1 := fun wi hw q => hw pins s1 σ H1 x v _ I1 rx q
  cases d with
  | tup ds =>
    obtain ⟨p, xs, rfl, sx, dx⟩ := n1
    cases rx
    obtain ⟨its, rv, pt, hz⟩ := I1.tuple sx
    refine wpAny_pyIter_tuple (show s1.heap.IsTuple p its.toArray from pt) ?_
    refine ⟨s1.heap.objs.size, [s1.heap.objs.size], _, _, H1, rfl, I1.kept (t' := s1.toks) fun b o e => Heap.get?_push_of_some _ e, turn_tuple p _, ⟨_, Heap.get?_push_size _ rfl, rfl, rfl⟩, fun b hb => ?_, _, G1, jr_tup sx dx, k1, r1, q1⟩
    have e : b = s1.heap.objs.size := by simpa using hb
    subst e
    exact I1.fpOk (Nat.le_refl _) (I1.hok.fresh (Nat.le_refl _))
  | str z =>
    cases n1
    obtain ⟨t, rfl⟩ := rx
    have q : ∃ it G', JR X.K H1 (Its z) it ∧ TK H H1 ∧ RS X.K σd G' σ H1 ∧ R it G' := ⟨_, G1, jr_str, k1, r1, q1⟩
    cases ha : z.cps.all (· < 128)
    · exact wpAny_pyIter_wide ha (pi_one (tk := s1.toks) I1 _ (turn_str _ z t "str_iterator" (.inr rfl)) ⟨_, Heap.get?_push_size _ rfl, rfl, rfl⟩ q)
    · exact wpAny_pyIter_ascii ha (pi_one (tk := s1.toks) I1 _ (turn_str _ z t "str_ascii_iterator" (.inl rfl)) ⟨_, Heap.get?_push_size _ rfl, rfl, rfl⟩ q)
  | fls ds =>
    obtain ⟨p, xs, rfl, sx, dx⟩ := n1
    cases rx
    obtain ⟨its, rv, pl, hz⟩ := I1.list sx.sql
    refine wpAny_pyIter_list pl.isList ?_
    refine ⟨s1.heap.objs.size, [s1.heap.objs.size], _, _, H1, rfl, I1.kept (t' := s1.toks) fun b o e => Heap.get?_push_of_some _ e, turn_list p _, ⟨_, Heap.get?_push_size _ rfl, rfl, rfl⟩, fun b hb => ?_, _, G1, jr_fls sx dx, k1, r1, q1⟩
    have e : b = s1.heap.objs.size := by simpa using hb
    subst e
    exact I1.fpOk (Nat.le_refl _) (I1.hok.fresh (Nat.le_refl _))
  | ref p =>
    cases n1
    cases rx
    obtain ⟨ds, xs, hk, sq, hd, _⟩ := q1.sq r1.ob
    obtain ⟨its, rv, pl, hz⟩ := I1.list sq
    refine wpAny_pyIter_list pl.isList ?_
    refine ⟨s1.heap.objs.size, [s1.heap.objs.size], _, _, H1, rfl, I1.kept (t' := s1.toks) fun b o e => Heap.get?_push_of_some _ e, turn_list p _, ⟨_, Heap.get?_push_size _ rfl, rfl, rfl⟩, fun b hb => ?_, _, G1, jr_list, k1, r1, hk⟩
    have e : b = s1.heap.objs.size := by simpa using hb
    subst e
    exact I1.fpOk (Nat.le_refl _) (I1.hok.fresh (Nat.le_refl _))
  | _ => exact (show False from q1).elim
/-! ### range, enumerate -/
variable {t : TAD} {es : List Expr} {p pos tpos : Pos} {elts : List Expr} {kk : Nat}
/-- range(n) -/
def rg1 (ds : List D) (R : ItD → Prop) : Prop := match ds with
  | [.int j] => -(2 ^ 62) ≤ j ∧ j < 2 ^ 62 ∧ R ⟨(List.range j.toNat).map fun i => .int (0 + (i : Nat)), fun _ => True⟩
  | _ => False
def iRange1 (t : TAD) : TID := fun σ G R E => t σ G (fun ds G1 => rg1 ds fun it => R it G1) E
theorem rg1.at {ds : List D} {R : ItD → Prop} (h : rg1 ds R) : ∃ j, ds = [.int j] ∧ -(2 ^ 62) ≤ j ∧ j < 2 ^ 62 ∧ R ⟨(List.range j.toNat).map fun i => .int (0 + (i : Nat)), fun _ => True⟩ := by
  cases ds with
  | nil => exact h.elim
  | cons d r =>
    cases r with
    | nil =>
      cases d with
      | int j => exact ⟨j, rfl, h⟩
      | _ => exact h.elim
    | cons d2 r => exact (show False by cases d <;> exact h).elim
theorem di_range1 (hg : Gl X "range") (hm : X.mg "range" = none) (ha : DA X [a] t) (hs : starEach [a] X.env = (false, eval a X.env) :: starEach [] X.env) : DI X tg (.Call (.Name "range" p) [a] [] pos) (iRange1 t) :=
  DI.of (pi_range1 hg hm ha.pa hs) fun σ H σd G He E R r tk tx h => ⟨σd, G, He, E, _, r, tk, tx, h, fun vs H1 ds G1 ns k1 r1 q1 => by
    obtain ⟨j, rfl, h1, h2, q⟩ := rg1.at q1
    obtain ⟨v, vs', rfl, n1, e⟩ := ns
    cases e; cases n1
    exact ⟨j, rfl, h1, h2, _, G1, jr_rng, k1, r1, q⟩⟩
/-- enumerate(list) -/
def en1 (ds : List D) (G : Gp) (R : ItD → Prop) : Prop := match ds with
  | [.ref p] => lsAt G p fun xs => R ⟨pairsE xs, okL p xs⟩
  | _ => False
def iEnum1 (t : TAD) : TID := fun σ G R E => t σ G (fun ds G1 => en1 ds G1 fun it => R it G1) E
theorem en1.at {ds : List D} {G : Gp} {R : ItD → Prop} (h : en1 ds G R) : ∃ p, ds = [.ref p] ∧ lsAt G p fun xs => R ⟨pairsE xs, okL p xs⟩ := by
  cases ds with
  | nil => exact h.elim
  | cons d r =>
    cases r with
    | nil =>
      cases d with
      | ref j => exact ⟨j, rfl, h⟩
      | _ => exact h.elim
    | cons d2 r => exact (show False by cases d <;> exact h).elim
theorem di_enum (hg : Gl X "enumerate") (hm : X.mg "enumerate" = none) (ha : DA X [a] t) (hs : starEach [a] X.env = (false, eval a X.env) :: starEach [] X.env) : DI X (.Tuple elts kk tpos) (.Call (.Name "enumerate" p) [a] [] pos) (iEnum1 t) :=
  DI.of (pi_enum hg hm ha.pa hs) fun σ H σd G He E R r tk tx h => ⟨σd, G, He, E, _, r, tk, tx, h, fun vs H1 ds G1 ns k1 r1 q1 => by
    obtain ⟨j, rfl, q⟩ := en1.at q1
    obtain ⟨v, vs', rfl, n1, e⟩ := ns
    cases e; cases n1
    obtain ⟨xs, ws, hk, sq, hd, _⟩ := q.sq r1.ob
    exact ⟨j, ws, rfl, sq, _, G1, jr_enum, k1, r1, hk⟩⟩

/-! ### for -/
def loopD (ok : Gp → Prop) (g : TGD) (tb : TSD) (D : EndsD) : List DL.D → SD → Gp → Prop
  | [], σ, G => ok G ∧ D.nx σ G
  | x :: r, σ, G => ok G ∧ g x σ G (fun σ1 G1 => tb { D with nx := loopD ok g tb D r, ct := loopD ok g tb D r, bk := D.nx } σ1 G1) D.ex
def sFor (ti : TID) (g : TGD) (tb : TSD) : TSD := fun D σ G => ti σ G (fun it G1 => loopD it.ok g tb D it.xs σ G1) D.ex
theorem loopD.ok' {ok : Gp → Prop} {g : TGD} {tb : TSD} {D : EndsD} {xs : List DL.D} {σ : SD} {G : Gp} (h : loopD ok g tb D xs σ G) : ok G := by
  cases xs with
  | nil => exact h.1
  | cons x r => exact h.1
theorem ds_for {ti : TID} {g : TGD} {tb : TSD} {body : List Stmt} (hp : PassesOwn (model X.prog X.w) X.A X.env X.xe) (hc : X.calm = true) (hi : DI X tg iter ti) (hg : DG X tg g) (hb : DSs X body tb) (hs : ∀ x, foldedSetIterable iter X.env x = pure x) :
    DS X (.For tg iter body [] pos) (sFor ti g tb) :=
  DS.of (ps_for hp hc hi.pi hg.pg hb.pss hs) fun σ H σd G He D r tk tx h => ⟨σd, G, He, D.ex, _, r, tk, tx, h, fun J it H1 G1 j k1 r1 q1 =>
    ⟨fun i m σ' H' => i + m = it.xs.length ∧ ∃ σd' G', TK H1 H' ∧ RS X.K σd' G' σ' H' ∧ loopD it.ok g tb D (it.xs.drop i) σd' G', ⟨it.xs.length, by omega, σd, G1, TK.refl, r1, q1⟩, fun i m σ2 H2 ⟨em, σd2, G2, k2, r2, q2⟩ => by
      have okk := q2.ok'
      by_cases hi : i < it.xs.length
      · refine .inr ⟨j.go i G2 H2 k2 r2.ob okk hi, fun σ' H' => ∃ σd' G', TK H1 H' ∧ RS X.K σd' G' σ' H' ∧ loopD it.ok g tb D (it.xs.drop (i + 1)) σd' G', fun σ' H' ⟨σd', G', k', r', q'⟩ => ⟨m - 1, by omega, by omega, σd', G', k', r', q'⟩, fun x H3 y => ?_⟩
        obtain ⟨k3, g3, d, ed, n⟩ := j.yld i G2 H2 x H3 k2 r2.ob okk hi y
        have e : it.xs.drop i = d :: it.xs.drop (i + 1) := by
          rw [List.drop_eq_getElem_cons hi]
          rw [List.getElem?_eq_getElem hi] at ed
          rw [Option.some.inj ed]
        rw [e] at q2
        have k13 := k2.trans k3
        refine ⟨σd2, G2, He, D.ex, d, _, r2.to k3 g3, (tk.trans k1).trans k13, tx, n, q2.2, fun σ4 H4 σd4 G4 k4 r4 q4 => ?_⟩
        have k14 := k13.trans k4
        refine ⟨σd4, G4, He, { D with nx := loopD it.ok g tb D (it.xs.drop (i + 1)), ct := loopD it.ok g tb D (it.xs.drop (i + 1)), bk := D.nx }, r4, (tk.trans k1).trans k14, tx, q4, fun σ' H' σd' G' k' r' n' => ⟨σd', G', k14.trans k', r', n'⟩, fun σ' H' σd' G' k' r' n' => ⟨σd', G', (k1.trans k14).trans k', r', n'⟩,
          fun σ' H' σd' G' k' r' n' => ⟨σd', G', k14.trans k', r', n'⟩, fun v H' d G' n k' r' q => ⟨d, G', n, (k1.trans k14).trans k', r', q⟩⟩
      · have hle : it.xs.length ≤ i := by omega
        rw [List.drop_eq_nil_of_le hle] at q2
        exact .inl ⟨j.stop i G2 H2 k2 r2.ob okk hle, σd2, G2, k1.trans k2, r2, q2.2⟩⟩⟩

/-! ### list comprehensions -/
/-- the target: a name's slot, or the slots of a tuple of names -/
inductive CT where
  | one (i : Nat)
  | tup (is : List Nat)
def setL : SD → List Nat → List D → SD
  | σ, i :: is, d :: ds => setL (σ.set i (some d)) is ds
  | σ, _, _ => σ
def ctD (c : CT) (x : D) (σ : SD) (k : SD → Prop) : Prop := match c with
  | .one i => k (σ.set i (some x))
  | .tup is => match x with
    | .tup ds => ds.length = is.length ∧ k (setL σ is ds)
    | _ => False
def wipeD (σ : SD) : List Nat → SD
  | [] => σ
  | v :: vs => (wipeD σ vs).set v none
def lcLoop (ok : Gp → Prop) (c : CT) (tt : TTD) (te : TED) (σ : SD) (p : Addr) : List D → Gp → (Gp → Prop) → Prop
  | [], G, k => ok G ∧ k G
  | x :: r, G, k => ok G ∧ ctD c x σ fun σ2 => tt σ2 G (fun b G3 => if b = true then te σ2 G3 (fun y G4 => lsM G4 p fun acc => acc.length < sizeLine ∧ lcLoop ok c tt te σ p r (up G4 p (.lst (acc ++ [y]))) k) noE else lcLoop ok c tt te σ p r G3 k) noE
def dLc (ti : TID) (c : CT) (tt : TTD) (te : TED) (vs : List Nat) : TED := fun σ G Q E => ti σ G (fun it G1 => ∀ p, G1 p = none → lcLoop it.ok c tt te (wipeD σ vs) p it.xs (up G1 p (.lst [])) (Q (.ref p))) E
def dYes : TTD := fun _ G Q _ => Q true G
theorem lcLoop.ok' {ok : Gp → Prop} {c : CT} {tt : TTD} {te : TED} {σ : SD} {p : Addr} {xs : List D} {G : Gp} {k : Gp → Prop} (h : lcLoop ok c tt te σ p xs G k) : ok G := by
  cases xs with
  | nil => exact h.1
  | cons x r => exact h.1
end
end DL
end
section
/-! D8: list comprehensions: the rule. -/
namespace DL
open PySem PySem.Spec PyProof.Rows L2

theorem wipe_in {σ : St} {i : Nat} : ∀ {vs : List Nat}, i ∈ vs → (wipe σ vs)[i]? = σ[i]?.map fun _ => none
  | v :: vs, h => by
    unfold wipe
    by_cases e : v = i
    · subst e
      rw [List.getElem?_set]
      by_cases hl : v < (wipe σ vs).length
      · rw [if_pos rfl, if_pos hl]
        have hl2 : v < σ.length := by rw [wipe_length] at hl; exact hl
        rw [List.getElem?_eq_getElem hl2]; rfl
      · rw [if_pos rfl, if_neg hl]
        have hl2 : σ.length ≤ v := by rw [wipe_length] at hl; omega
        rw [List.getElem?_eq_none_iff.mpr hl2]; rfl
    · rw [List.getElem?_set_ne e]
      exact wipe_in (by rcases List.mem_cons.mp h with z | z; exact absurd z.symm e; exact z)
theorem wipe_ext {σ τ : St} {vs : List Nat} (hl : σ.length = τ.length) (h : ∀ i, i ∉ vs → σ[i]? = τ[i]?) : wipe σ vs = wipe τ vs := by
  apply List.ext_getElem?
  intro i
  by_cases hi : i ∈ vs
  · rw [wipe_in hi, wipe_in hi]
    by_cases hj : i < σ.length
    · rw [List.getElem?_eq_getElem hj, List.getElem?_eq_getElem (by omega)]; rfl
    · rw [List.getElem?_eq_none_iff.mpr (by omega), List.getElem?_eq_none_iff.mpr (by omega)]
  · rw [wipe_out hi, wipe_out hi, h i hi]
theorem wipeD_length (σ : SD) : ∀ vs : List Nat, (wipeD σ vs).length = σ.length
  | [] => rfl
  | v :: vs => by unfold wipeD; rw [List.length_set, wipeD_length σ vs]
theorem wipeD_some {σ : SD} {i : Nat} {x : D} : ∀ {vs : List Nat}, (wipeD σ vs)[i]? = some (some x) → σ[i]? = some (some x) ∧ i ∉ vs
  | [], h => ⟨h, by simp⟩
  | v :: vs, h => by
    unfold wipeD at h
    by_cases e : v = i
    · subst e
      rw [List.getElem?_set] at h
      rw [if_pos rfl] at h
      split at h <;> cases h
    · rw [List.getElem?_set_ne e] at h
      obtain ⟨a, b⟩ := wipeD_some h
      exact ⟨a, fun z => (List.mem_cons.mp z).elim (fun q => e q.symm) b⟩
theorem RS.wipe {K : PySem.W.Frag} {σd : SD} {G : Gp} {σ : St} {H : Hp} (r : RS K σd G σ H) (vs : List Nat) : RS K (wipeD σd vs) G (L2.wipe σ vs) H :=
  ⟨by rw [wipe_length, wipeD_length, r.len], fun i d e => by
    obtain ⟨e1, hn⟩ := wipeD_some e
    obtain ⟨v, e2, n⟩ := r.sl i d e1
    exact ⟨v, by rw [wipe_out hn]; exact e2, n⟩, r.ob⟩
/-- the target at the hand layer -/
def gList : List Nat → TGs
  | [] => gNil
  | i :: is => gCons (gName i) (gList is)
def gCT (K : PySem.W.Frag) : CT → TG
  | .one i => gName i
  | .tup is => gTup K is.length (gList is)
def ctIn (vs : List Nat) : CT → Bool
  | .one i => vs.contains i
  | .tup is => is.all fun i => vs.contains i
section
variable {K : PySem.W.Frag} {H : Hp} {G : Gp}
theorem ct_list {vs : List Nat} {Q : St → Hp → Prop} : ∀ {is : List Nat} {ds : List D} {xs : List V} {σd : SD} {σ : St}, (is.all fun i => vs.contains i) = true → ds.length = is.length → DenL K H ds xs → RS K σd G σ H →
    (∀ σ', RS K (setL σd is ds) G σ' H → L2.wipe σ' vs = L2.wipe σ vs → Q σ' H) → gList is xs σ H Q
  | [], [], _, σd, σ, _, _, n, r, q => by cases n; exact ⟨rfl, q σ r rfl⟩
  | i :: is, d :: ds, _, σd, σ, hi, hl, ⟨v, ws, e, n1, n2⟩, r, q => by
    subst e
    rw [List.all_cons, Bool.and_eq_true] at hi
    refine ⟨v, ws, rfl, ?_⟩
    show gList is ws (σ.set i (some v)) H Q
    refine ct_list hi.2 (by simpa using hl) n2 (r.set i n1) fun σ' r' e' => q σ' r' (e'.trans (wipe_ext (by rw [List.length_set]) fun j hj => ?_))
    exact List.getElem?_set_ne fun z => hj (by subst z; exact List.contains_iff_mem.mp hi.1)
  | [], _ :: _, _, _, _, _, hl, _, _, _ => by simp at hl
  | _ :: _, [], _, _, _, _, hl, _, _, _ => by simp at hl
theorem ct_ok {vs : List Nat} {c : CT} {x : D} {v : V} {σd : SD} {σ : St} {k : SD → Prop} {Q : St → Hp → Prop} (hc : ctIn vs c = true) (n : Den K H x v) (r : RS K σd G σ H) (h : ctD c x σd k)
    (q : ∀ σd' σ', RS K σd' G σ' H → L2.wipe σ' vs = L2.wipe σ vs → k σd' → Q σ' H) : gCT K c v σ H Q := by
  cases c with
  | one i => exact q _ _ (r.set i n) (wipe_ext (by rw [List.length_set]) fun j hj => List.getElem?_set_ne fun z => hj (by subst z; exact List.contains_iff_mem.mp hc)) h
  | tup is =>
    cases x with
    | tup ds =>
      obtain ⟨p, xs, rfl, sx, dx⟩ := n
      exact ⟨p, xs, rfl, sx, by rw [← dx.length]; exact h.1, ct_list hc h.1 dx r fun σ' r' e => q _ σ' r' e h.2⟩
    | _ => exact h.elim
end
theorem wipe_wipe (σ : St) (vs : List Nat) : L2.wipe (L2.wipe σ vs) vs = L2.wipe σ vs := wipe_ext (wipe_length _ _) fun i hi => wipe_out hi
theorem takesNo {X : Cx} {K : PySem.W.Frag} {He : Hp} : Takes X (WD K He noE) := takes0.imp fun _ _ _ _ ⟨_, _, _, _, _, _, _, _, _, _, _, _, z⟩ => z
def dnE0 (K : PySem.W.Frag) (t : TED) : TE := fun σ H Q => ∃ σd G Qd, RS K σd G σ H ∧ t σd G Qd noE ∧ ∀ v H' d G', Den K H' d v → TK H H' → RS K σd G' σ H' → Qd d G' → Q v H'
def dnT0 (K : PySem.W.Frag) (t : TTD) : TT := fun σ H Q => ∃ σd G Qd, RS K σd G σ H ∧ t σd G Qd noE ∧ ∀ b H' G', TK H H' → RS K σd G' σ H' → Qd b G' → Q b H'
def dnI0 (K : PySem.W.Frag) (t : TID) : TI := fun σ H R => ∃ σd G Rd, RS K σd G σ H ∧ t σd G Rd noE ∧ ∀ J it H' G', JR K H' J it → TK H H' → RS K σd G' σ H' → Rd it G' → R J H'
section
variable {X : Cx} {e tg iter elt : Expr} {te : TED} {tt : TTD} {ti : TID} {ifs : List Expr} {pos : Pos}
theorem DE.pe0 (h : DE X e te) : PE X e (dnE0 X.K te) := ⟨fun pins s σ H Q I ⟨σd, G, Qd, r, ht, hq⟩ => h.pe.run pins s σ H Q I ⟨σd, G, H, noE, Qd, r, TK.refl, takesNo, ht, hq⟩⟩
theorem DT.pt0 (h : DT X e tt) : PT X e (dnT0 X.K tt) := ⟨fun pins s σ H Q I ⟨σd, G, Qd, r, ht, hq⟩ => h.pt.run pins s σ H Q I ⟨σd, G, H, noE, Qd, r, TK.refl, takesNo, ht, hq⟩⟩
theorem DI.pi0 (h : DI X tg iter ti) : PI X tg iter (dnI0 X.K ti) := ⟨fun pins s σ H R I ⟨σd, G, Rd, r, ht, hq⟩ => h.pi.run pins s σ H R I ⟨σd, G, H, noE, Rd, r, TK.refl, takesNo, ht, hq⟩⟩
theorem pts_nil0 : PTs X [] (dnT0 X.K dYes) := ⟨fun pins s σ H Q I ⟨σd, G, Qd, r, ht, hq⟩ => pts_nil.run pins s σ H Q I (hq true H G TK.refl r ht)⟩
/-- a comprehension's own reading, behind what it walks -/
theorem lc_read {K : PySem.W.Frag} {vs : List Nat} {c : CT} {J : It} {it : ItD} {σ : St} {H0 H1 : Hp} {σd : SD} {G1 : Gp} {Q : KD} {D : Addr} (hc : ctIn vs c = true) (k0 : TK H0 H1) (j : JR K H1 J it) (r1 : RS K σd G1 σ H1) (hD : H1 D = none)
    (q : ∀ p, G1 p = none → lcLoop it.ok c tt te (wipeD σd vs) p it.xs (up G1 p (.lst [])) (Q (.ref p))) :
    ∃ W : Nat → Nat → Hp → Prop, (∃ m, W 0 m (upd H1 D (.lst []))) ∧ ∀ i m H, W i m H →
      (J.stop i H ∧ (∃ d G', Den K H d (.ref D) ∧ TK H0 H ∧ RS K σd G' σ H ∧ Q d G')) ∨ (J.go i H ∧ ∃ Nx : Hp → Prop, (∀ H', Nx H' → ∃ m', m' < m ∧ W (i + 1) m' H') ∧ ∀ x H', J.yld i H x H' → gCT K c x (L2.wipe σ vs) H' fun σ2 H2 => L2.wipe σ2 vs = L2.wipe σ vs ∧ dnT0 K tt σ2 H2 fun b H3 =>
        if b = true then dnE0 K te σ2 H3 fun y H4 => ∃ acc, H4 D = some (.lst acc) ∧ acc.length < sizeLine ∧ Nx (upd H4 D (.lst (acc ++ [y]))) else Nx H3) := by
  have q0 := q D (r1.ob.free hD)
  have kn : TK H1 (upd H1 D (.lst [])) := TK.new hD
  have g0 : RG K (up G1 D (.lst [])) (upd H1 D (.lst [])) := r1.ob.new hD ⟨[], upd_same, rfl⟩
  refine ⟨fun i m H => i + m = it.xs.length ∧ TK H1 H ∧ ∃ G, RG K G H ∧ lcLoop it.ok c tt te (wipeD σd vs) D (it.xs.drop i) G (Q (.ref D)), ⟨it.xs.length, by omega, kn, up G1 D (.lst []), g0, q0⟩, fun i m H ⟨em, k, G, g, hl⟩ => ?_⟩
  have okk := hl.ok'
  by_cases hi : i < it.xs.length
  · refine .inr ⟨j.go i G H k g okk hi, fun H' => TK H1 H' ∧ ∃ G', RG K G' H' ∧ lcLoop it.ok c tt te (wipeD σd vs) D (it.xs.drop (i + 1)) G' (Q (.ref D)), fun H' ⟨k', G', g', l'⟩ => ⟨m - 1, by omega, by omega, k', G', g', l'⟩, fun x H2 y => ?_⟩
    obtain ⟨k2, g2, d, ed, n⟩ := j.yld i G H x H2 k g okk hi y
    have e : it.xs.drop i = d :: it.xs.drop (i + 1) := by
      rw [List.drop_eq_getElem_cons hi]
      rw [List.getElem?_eq_getElem hi] at ed
      rw [Option.some.inj ed]
    rw [e] at hl
    have k12 := k.trans k2
    have rw1 : RS K (wipeD σd vs) G (L2.wipe σ vs) H2 := (r1.wipe vs).to k12 g2
    refine ct_ok hc n rw1 hl.2 fun σd2 σ2 r2 ew hk => ⟨ew.trans (wipe_wipe σ vs), σd2, G, _, r2, hk, fun b H3 G3 k3 r3 q3 => ?_⟩
    cases b with
    | true =>
      rw [if_pos rfl] at q3 ⊢
      refine ⟨σd2, G3, _, r3, q3, fun v H4 d4 G4 n4 k4 r4 q4 => ?_⟩
      obtain ⟨acc, ea, hz, hl4⟩ := q4.at
      obtain ⟨xs, hH, dx⟩ := r4.ob D _ ea
      refine ⟨xs, hH, by rw [← dx.length]; exact hz, ((k12.trans k3).trans k4).trans (TK.mut hH trivial), up G4 D (.lst (acc ++ [d4])), r4.ob.put hH trivial ⟨_, upd_same, (dx.append (DenL.one n4)).keep (TK.mut hH trivial)⟩, hl4⟩
    | false =>
      rw [if_neg Bool.false_ne_true] at q3 ⊢
      exact ⟨k12.trans k3, G3, r3.ob, q3⟩
  · have hle : it.xs.length ≤ i := by omega
    rw [List.drop_eq_nil_of_le hle] at hl
    exact .inl ⟨j.stop i G H k g okk hle, .ref D, G, rfl, k0.trans k, r1.to k g, hl.2⟩
theorem de_lc {scope : Scope} {own : List (Str × Nat)} {c : CT} (hcalm : X.calm = true) (hN : X.N.Nodup) (hi : DI X tg iter ti) (ok : BlkOk X.N X.env.scope scope own) (hin : ctIn (own.map (·.2)) c = true)
    (hg : ∀ (s : Shared) (H : Hp) (C : Addr) (cl : List (Str × Addr)) (fp : List Addr), PG (X.blk s H scope (compEnvC scope cl C X.env) fp) tg (gCT X.K c))
    (ht : ∀ (s : Shared) (H : Hp) (C : Addr) (cl : List (Str × Addr)) (fp : List Addr), PTs (X.blk s H scope (compEnvC scope cl C X.env) fp) ifs (dnT0 X.K tt))
    (he : ∀ (s : Shared) (H : Hp) (C : Addr) (cl : List (Str × Addr)) (fp : List Addr), PE (X.blk s H scope (compEnvC scope cl C X.env) fp) elt (dnE0 X.K te)) (hs : ∀ x, foldedSetIterable iter X.env x = pure x) :
    DE X (.ListComp elt [⟨tg, iter, ifs, 0⟩] scope pos) (dLc ti c tt te (own.map (·.2))) :=
  DE.of (pe_lc hcalm hN hi.pi ok hg ht he hs) fun σ H σd G He E Q r tk tx h => ⟨σd, G, He, E, _, r, tk, tx, h, fun J it H1 G1 j k1 r1 q1 D hD => lc_read hin k1 j r1 hD q1⟩
theorem ds_setLc {i : Nat} {y : Str} {py spos : Pos} {scope : Scope} {own : List (Str × Nat)} {c : CT} (hcalm : X.calm = true) (hN : X.N.Nodup) (hy : X.N[i]? = some y) (hyl : X.env.scope.names.lookup y = some .local)
    (hsw : swapsWith (.ListComp elt [⟨tg, iter, ifs, 0⟩] scope pos) (some (.Name y py)) spos.line X.env = pure true) (hi : DI X tg iter ti) (ok : BlkOk X.N X.env.scope scope own) (hin : ctIn (own.map (·.2)) c = true)
    (hg : ∀ (s : Shared) (H : Hp) (C : Addr) (cl : List (Str × Addr)) (fp : List Addr), PG (X.blk s H scope (compEnvC scope cl C X.env) fp) tg (gCT X.K c))
    (ht : ∀ (s : Shared) (H : Hp) (C : Addr) (cl : List (Str × Addr)) (fp : List Addr), PTs (X.blk s H scope (compEnvC scope cl C X.env) fp) ifs (dnT0 X.K tt))
    (he : ∀ (s : Shared) (H : Hp) (C : Addr) (cl : List (Str × Addr)) (fp : List Addr), PE (X.blk s H scope (compEnvC scope cl C X.env) fp) elt (dnE0 X.K te)) (hs : ∀ x, foldedSetIterable iter X.env x = pure x) :
    DS X (.Assign [.Name y py] (.ListComp elt [⟨tg, iter, ifs, 0⟩] scope pos) spos) (sAsg (dLc ti c tt te (own.map (·.2))) (gdName i)) :=
  DS.of (ps_setLc hcalm hN hy hyl hsw hi.pi ok hg ht he hs) fun σ H σd G He D r tk tx h => by
    refine ⟨σd, G, He, D.ex, _, r, tk, tx, h, fun J it H1 G1 j k1 r1 q1 A hA => ?_⟩
    obtain ⟨W, w0, turn⟩ := lc_read (Q := fun d G' => D.nx (σd.set i (some d)) G') hin k1 j r1 hA q1
    refine ⟨W, w0, fun i' m H' hw => ?_⟩
    rcases turn i' m H' hw with ⟨h1, d, G', n, k', r', q'⟩ | h2
    · exact .inl ⟨h1, _, G', k', r'.set i n, q'⟩
    · exact .inr h2
end
end DL
end
section
/-! D9: a def by its body; a law's end. -/
namespace DL
open PySem PySem.Spec PyProof.Rows L2

/-- where a def's body (or a comprehension in it) stands -/
structure Here (P : Program) (w : World) (K : PySem.W.Frag) (mg : Str → Option Value) (base : Heap) (N : List Str) (sc : Scope) (k : Nat) (X : Cx) : Prop where
  prog : X.prog = P
  wd : X.w = w
  frag : X.K = K
  glob : X.mg = mg
  bs : X.base = base
  names : X.N = N
  scope : X.env.scope = sc
  calm : X.calm = true
  room : Room k X.A
  guards : X.A.guards = some []
/-- .. a def's body itself -/
structure Top (X : Cx) : Prop where
  fn : X.fn = fun _ => true
  own : PassesOwn (model X.prog X.w) X.A X.env X.xe
  stk : X.stack = X.env :: X.outer
  fr : X.env.frame = some X.env.locals
  ex : X.ex = []
def startD (N : List Str) (ds : List D) : SD := ds.map some ++ List.replicate (N.length - ds.length) none
theorem start_get {α : Type} {n : Nat} : ∀ {xs : List α} {i : Nat} {d : α}, (xs.map some ++ List.replicate n none)[i]? = some (some d) → xs[i]? = some d := fun {xs i d} e => by
  by_cases hi : i < xs.length
  · rw [List.getElem?_append_left (by simpa using hi), List.getElem?_map, List.getElem?_eq_getElem hi] at e
    rw [List.getElem?_eq_getElem hi]
    simpa using e
  · rw [List.getElem?_append_right (by simpa using hi), List.getElem?_replicate] at e
    split at e <;> cases e
theorem start_put {α : Type} {n : Nat} {xs : List α} {i : Nat} {d : α} (e : xs[i]? = some d) : (xs.map some ++ List.replicate n none)[i]? = some (some d) := by
  have hi : i < xs.length := (List.getElem?_eq_some_iff.mp e).1
  rw [List.getElem?_append_left (by simpa using hi), List.getElem?_map, e]; rfl
theorem rs_start {K : PySem.W.Frag} {N : List Str} {ds : List D} {vs : List V} {G : Gp} {H : Hp} (n : DenL K H ds vs) (g : RG K G H) : RS K (startD N ds) G (L2.start N vs) H := by
  have l := n.length
  refine ⟨by unfold startD L2.start; simp [l], fun i d e => ?_, g⟩
  obtain ⟨v, ev, nv⟩ := n.get (start_get e)
  exact ⟨v, start_put ev, nv⟩
section
variable {P : Program} {w : World} {K : PySem.W.Frag} {mg : Str → Option Value} {base : Heap}
/-- THE RULE: a def of the text by its body's reading t -/
theorem fnD {x qual : Str} {params : Arguments} {body : List Stmt} {scope : Scope} {dvs : List V} {kws : List (Str × V)} {f : Addr} {fd : FuncData} {N ps : List Str} {k : Nat} {sp : SpD} {t : TSD}
    (F : FunD K x qual params body scope dvs kws f fd) (S : FnScope N ps scope) (ar : ∀ ds G Q E, sp ds G Q E → ds.length = ps.length) (hb : ∀ X : Cx, Here P w K mg base N scope k X → Top X → DSs X body t)
    (hp : ∀ ds G Q E, sp ds G Q E → t { nx := fun _ G' => Q .non G', rt := Q, ex := fun C d _ G' => E C d G' } (startD N ds) G) : FnOkG P w K mg base (k + 1) f fd ps (liftSp K sp) := by
  obtain ⟨oc, od, dV, kV, doc, pm, an, cdv, ct, osl, rfl, lk, hcd, _, _⟩ := F.ex
  have ar' : ∀ {vs H Q E}, liftSp K sp vs H Q E → vs.length = ps.length := fun ⟨ds, G, Qd, Ed, n, _, h, _⟩ => n.length ▸ ar _ _ _ _ h
  refine ⟨ar', fun {A outer s H args us vs Q E} room gd e0 bt rv hsp => ?_⟩
  have KX : K.In s.heap := e0.mod.kin.keeps fun b o e => (e0.bs b o e).1
  refine codeAny_call_function room.depth (KX _ _ lk) rfl S.co S.gen rfl (PySem.W.codeRec_of KX hcd) (bt _ _ _ _ ?_)
  refine wpAny_newFunctionEnv_cells S.kind (fun ⟨n, v⟩ hy => ?_) fun env he s1 inn => ?_
  · rcases S.par n (List.of_mem_zip hy).1 with q | q
    · exact .inl q
    · exact .inr ⟨q, PySem.W.cellsFrom_some _ _ _ (.inl q)⟩
  · subst he
    refine ⟨(e0.mod.nolimit.keeps fun b o e => (e0.bs b o e).1).keeps inn.toInCall.keep, codeAny_func ?_⟩
    obtain ⟨ds, G, Qd, Ed, n, g, hs, q1, q2⟩ := id hsp
    have I := inv_start (CX := L2.CX P w) (N := N) (qual := qual) (f := f) (cd := cdv) (E := E) S room.hd e0 (ar' hsp) rv inn
    have tkk := takes_of (X := cxOf (L2.CX P w) P w K mg base N qual scope f cdv A outer s H E) (E := E) rfl rfl rfl rfl
    have run := (hb _ ⟨rfl, rfl, rfl, rfl, rfl, rfl, rfl, rfl, room.deeper _, gd⟩ ⟨rfl, PassesOwn.leaving, rfl, rfl, rfl⟩).run [] s1 (L2.start N vs) H (startD N ds) G H { nx := fun _ G' => Qd .non G', rt := Qd, ex := fun C d _ G' => Ed C d G' } I (rs_start n g) TK.refl
      (tkk.imp fun cls d σ H' ⟨k', C, v, dx, vv, σd, G', e1, e2, e3, n', r', z⟩ => by subst e1; subst e2; exact q2 C v G' dx vv H' z e3 n' k' r'.ob) (hp ds G Qd Ed hs)
    refine wpAny_mono run (fun fl s' z => ?_) fun e s' z => z
    cases fl with
    | ret u => obtain ⟨v, σ', H', d, G', J, rv', n', k', r', z⟩ := z; exact ⟨v, H', J.os, J.bare, J.base, J.hok, rv', q1 d G' v H' z n' k' r'⟩
    | next => obtain ⟨σ', H', σd', G', J, k', r', z⟩ := z; exact ⟨.non, H', J.os, J.bare, J.base, J.hok, rfl, q1 .non G' .non H' z rfl k' r'.ob⟩
    | brk => obtain ⟨_, _, _, _, _, _, _, z⟩ := z; exact z.elim
    | cont => obtain ⟨_, _, _, _, _, _, _, z⟩ := z; exact z.elim
end
end DL
end
section
/-! D10: a law's end over plain data. -/
namespace DL
open PySem PySem.Spec PyProof.Rows L2

section
variable {P : Program} {w : World} {K : PySem.W.Frag} {mg mb : Str → Option Value} {h : Heap} {a : Addr} {vs : List Value} {ns : List Int}
/-- the abstract heap at the law's entry: the script alone, locked, if it is not written -/
def scriptH (K : PySem.W.Frag) (a : Addr) (ob : Obj) (ns : List Int) : Hp := fun b => if b = a ∧ K.lookup a = none then some (.frz ob (.lst (ns.map V.int))) else none
abbrev lstO (vs : List Value) : Obj := { cls := .type "list", data := .seq vs.toArray }
theorem scriptH_at {ob : Obj} {b : Addr} {u : HO} (e : scriptH K a ob ns b = some u) : b = a ∧ K.lookup a = none ∧ u = .frz ob (.lst (ns.map V.int)) := by
  unfold scriptH at e
  by_cases hb : b = a ∧ K.lookup a = none
  · rw [if_pos hb] at e; exact ⟨hb.1, hb.2, (Option.some.inj e).symm⟩
  · rw [if_neg hb] at e; cases e
theorem script_hok (ha : h.get? a = some (lstO vs)) (rv : Vals (ns.map V.int) vs) (hl : ns.length ≤ sizeLine) : HOk P w (scriptH K a (lstO vs) ns) h := fun b u e => by
  obtain ⟨rfl, _, rfl⟩ := scriptH_at e
  exact ⟨ha, by rw [List.length_map]; exact hl, vs, _, rv, ha⟩
/-- what is not the script's own is untracked -/
theorem script_dict {b : Addr} {o : Obj} {es : Array DictEntry} {ep : Nat} (ha : h.get? a = some (lstO vs)) (e : h.get? b = some o) (d : o.data = .dict es ep) : scriptH K a (lstO vs) ns b = none := by
  cases q : scriptH K a (lstO vs) ns b with
  | none => rfl
  | some u =>
    obtain ⟨rfl, _, _⟩ := scriptH_at q
    rw [ha] at e
    rw [← Option.some.inj e] at d
    cases d
theorem script_sq (KX : K.In h) (ha : h.get? a = some (lstO vs)) (rv : Vals (ns.map V.int) vs) (hl : ns.length ≤ sizeLine) : SqF K (scriptH K a (lstO vs) ns) a (ns.map V.int) := by
  cases hk : K.lookup a with
  | none => exact .inl ⟨lstO vs, if_pos ⟨rfl, hk⟩⟩
  | some o =>
    have e := (KX a o hk).symm.trans ha
    cases e
    refine .inr ⟨lstO vs, vs.toArray, _, hk, rfl, rfl, rfl, ?_, by simpa using rv⟩
    rw [List.size_toArray, ← rv.length, List.length_map]; exact hl
theorem script_mod (KX : K.In h) (hns : h.Ns mainGlobals mg) (hb : h.Ns builtinsNs mb) (hbb : ∀ x : Str, x ≠ "__name__" → mb x = bootBuiltins x) (hlim : h.NoLimit) (ha : h.get? a = some (lstO vs)) :
    Mod K mg (hidT h (scriptH K a (lstO vs) ns)) := by
  have nsK : ∀ {b : Addr} {m : Str → Option Value}, h.Ns b m → (hidT h (scriptH K a (lstO vs) ns)).Ns b m := fun ⟨o, es, ep, e, d, r⟩ => ⟨o, es, ep, hidT_get e (script_dict ha e d), d, r⟩
  refine ⟨fun b o e => hidT_get (KX b o e) ?_, nsK hns, ⟨mb, nsK hb, hbb⟩, ?_⟩
  · cases q : scriptH K a (lstO vs) ns b with
    | none => rfl
    | some u => obtain ⟨rfl, z, _⟩ := scriptH_at q; rw [z] at e; cases e
  · obtain ⟨mc, h1, h2⟩ := hlim; exact ⟨mc, nsK h1, h2⟩
/-- the law is called -/
theorem law_run {k : Nat} {fa : Addr} {fd : FuncData} {x : Str} {sp : SpD} {s₁ : Shared} (KX : K.In s₁.heap) (hns : s₁.heap.Ns mainGlobals mg) (hb : s₁.heap.Ns builtinsNs mb) (hbb : ∀ x : Str, x ≠ "__name__" → mb x = bootBuiltins x) (hlim : s₁.heap.NoLimit) (hg : s₁.gens = #[])
    (ha : s₁.heap.get? a = some (lstO vs)) (rv : Vals (ns.map V.int) vs) (hl : ns.length ≤ sizeLine) (hr : Room k callerA) (F : ∀ base : Heap, K.In base → base.Ns mainGlobals mg → FnOkG P w K mg base k fa fd [x] (liftSp K sp))
    (hbind : ∀ (s : Shared) (u : Value), BindsTo s fd ⟨[u], []⟩ [(x, u)]) (hsp : sp [.fls (ns.map .int)] (fun _ => none) (fun v _ => v = .bl true) fun _ _ _ => False) :
    codeAny (model P w) callerA (.call (.ref fa) ⟨[.ref a], []⟩) (fun r s' => r = .ok (.ret (.bool true)) ∧ OldK s₁.heap s'.heap ∧ s'.os = s₁.os ∧ AllBare s'.gens) s₁ := by
  have M := script_mod (ns := ns) KX hns hb hbb hlim ha
  have hok : HOk P w (scriptH K a (lstO vs) ns) s₁.heap := script_hok ha rv hl
  have e0 : Env0 P w K mg (hidT s₁.heap (scriptH K a (lstO vs) ns)) callerA [] s₁ (scriptH K a (lstO vs) ns) :=
    ⟨rfl, M, fun b o e => of_hidT e, Nat.le_of_eq (hidT_size _ _), trivial, fun b z => (nomatch z), hok, .of_eq hg⟩
  have dl : ∀ (H : Hp) (l : List Int), DenL K H (l.map .int) (l.map V.int) := fun H l => by
    induction l with
    | nil => rfl
    | cons i l ih => exact DenL.cons rfl ih
  have want : liftSp K sp [.ref a] (scriptH K a (lstO vs) ns) (fun v _ => v = .bl true) (fun _ _ _ => False) :=
    ⟨[.fls (ns.map .int)], fun _ => none, _, _, DenL.one ⟨a, _, rfl, script_sq KX ha rv hl, dl _ _⟩, fun b o e => (nomatch e), hsp, fun d G' v H' e n _ _ => by subst e; exact n, fun C d G' dx vv H' z _ _ _ _ => z⟩
  refine codeAny_mono ((F _ M.kin M.glob).runs (outer := []) (us := [.ref a]) (vs := [.ref a]) hr rfl e0 (hbind s₁ (.ref a)) (.cons rfl .nil) want) fun r s' z => ?_
  match r, z with
  | .error e, z =>
    obtain ⟨_, _, _, _, _, _, _, _, _, _, _, _, z⟩ := z
    exact z.elim
  | .ok (.ret u), z =>
    obtain ⟨v, H', os, bare, un, hok', r', q⟩ := z
    have q : v = .bl true := q
    subst q
    obtain rfl : u = Value.bool true := r'
    refine ⟨rfl, OldK.of_keep fun b o e => ?_, os, bare⟩
    cases q : scriptH K a (lstO vs) ns b with
    | none => exact un.keep b o e q (fun z => nomatch z) (fun z => nomatch z)
    | some u =>
      obtain ⟨rfl, _, rfl⟩ := scriptH_at q
      exact ((hok' b _ (un.frzs b _ _ q)).1).trans ((hok b _ q).1.symm.trans e)
end
theorem law_end {l : PySem.W.OpenLaw} {n k : Nat} {q : Program} {loose : List Str} {XP : (Str → Option Value) → Heap → Prop} {YP : World → Heap → Prop} {d : DefRec} {x : Str} (hn : l.most = some n) (hn2 : n ≤ sizeLine) (hdf : d.params.defaults = []) (hr : Room k callerA)
    (F : ∀ (w : World) (mg : Str → Option Value) (fa : Addr) (h : Heap), YP w h → h.Ns mainGlobals mg → mg d.name = some (.ref fa) → ∃ (K : PySem.W.Frag) (fd : FuncData) (sp : SpD), K.In h ∧ (∀ (s : Shared) (u : Value), BindsTo s fd ⟨[u], []⟩ [(x, u)]) ∧
      (∀ ns : List Int, ns.length ≤ n → sp [.fls (ns.map .int)] (fun _ => none) (fun v _ => v = .bl true) fun _ _ _ => False) ∧ ∀ base : Heap, K.In base → base.Ns mainGlobals mg → FnOkG l.prog w K mg base k fa fd [x] (liftSp K sp)) :
    PySem.W.WalkO q loose XP YP l.row.toRowW d [] (fun f vs => PySem.call f vs) :=
  Att.attach_call hn hdf fun w s₀ s₁ mg mb fa o pm cd doc a vs ns G Y ho hd hcd hmg hobj hints hlen hg => by
    obtain ⟨K, fd, sp, KX, hb, hsp, hF⟩ := F w mg fa _ Y G.T.g hmg
    exact law_run KX G.T.g G.T.b G.T.builtins G.T.nolimit hg hobj (vals_ints hints) (Nat.le_trans hlen hn2) hr hF hb (hsp ns hlen)
end DL
end
section
/-! D11: built-in functions over plain data. -/
namespace DL
open PySem PySem.Spec PyProof.Rows L2

inductive BI where
  | len | abs | int | str | max | min | list | tuple | all | any | sum | isi | repr
  deriving DecidableEq
def BI.name : BI → Str
  | .len => "len" | .abs => "abs" | .int => "int" | .str => "str" | .max => "max" | .min => "min" | .list => "list" | .tuple => "tuple" | .all => "all" | .any => "any" | .sum => "sum" | .isi => "isinstance" | .repr => "repr"
def BI.val : BI → Value
  | .len => .builtin "len" | .abs => .builtin "abs" | .int => .type "int" | .str => .type "str" | .max => .builtin "max" | .min => .builtin "min" | .list => .type "list" | .tuple => .type "tuple" | .all => .builtin "all" | .any => .builtin "any" | .sum => .builtin "sum"
  | .isi => .builtin "isinstance" | .repr => .builtin "repr"
theorem BI.boot (b : BI) : bootBuiltins b.name = some b.val := by cases b <;> decide +kernel

def lenD (x : D) (G : Gp) (k : Nat → Prop) : Prop := match x with
  | .str y => y.length ≤ sizeLine ∧ k y.length
  | .tup ds => k ds.length
  | .fls ds => k ds.length
  | .ref p => match G p with
    | some (.lst ds) => k ds.length
    | some (.dk kvs) => k kvs.length
    | _ => False
  | _ => False
def blsD : List D → Option (List Bool)
  | [] => some []
  | .bl b :: r => (blsD r).map (b :: ·)
  | _ => none
def intsD : List D → Option (List Int)
  | [] => some []
  | .int i :: r => (intsD r).map (i :: ·)
  | _ => none
/-- a list's or a tuple's items -/
def seqD (x : D) (G : Gp) (k : List D → Prop) : Prop := match x with
  | .tup ds => k ds
  | .fls ds => k ds
  | .ref p => lsAt G p k
  | _ => False
/-- a list's items -/
def lsD (x : D) (G : Gp) (k : List D → Prop) : Prop := match x with
  | .fls ds => k ds
  | .ref p => lsAt G p k
  | _ => False
/-- the class of a value -/
def typD (G : Gp) : D → Option Value
  | .non => some (.type "NoneType") | .bl _ => some (.type "bool") | .int _ => some (.type "int") | .str _ => some (.type "str") | .tup _ => some (.type "tuple") | .fls _ => some (.type "list") | .ty _ => none | .exc _ _ => none
  | .ref p => match G p with
    | some (.lst _) => some (.type "list")
    | some (.dk _) => some (.type "dict")
    | _ => none
def clsD : D → Option Value
  | .ty n => some (.type n)
  | .ref C => some (.ref C)
  | _ => none
def isiD (K : PySem.W.Frag) (x c : D) (G : Gp) (k : Bool → Prop) : Prop := match x with
  | .exc C _ => optD (clsD c) fun u => optD (PySem.W.kitOne K (.ref C) u) k
  | x => optD (typD G x) fun t => optD (clsD c) fun u => optD (PySem.W.kitOne K t u) k
def reprD (x : D) (G : Gp) (k : Str → Prop) : Prop := ∃ n p, deep G n x = some p ∧ p.showable = true ∧ p.depth ≤ 64 ∧ p.shown.length ≤ sizeLine ∧ k p.shown

def biR (K : PySem.W.Frag) (b : BI) (ds : List D) (G : Gp) (Q : KD) : Prop := match ds with
  | [x] => (match b with
    | .len => lenD x G fun n => Q (.int n) G
    | .abs => (match x with | .int i => Q (.int (if i < 0 then -i else i)) G | _ => False)
    | .int => (match x with | .int i => Q (.int i) G | .bl b => Q (.int (if b then 1 else 0)) G | _ => False)
    | .str => (match x with | .int i => i.natAbs.log2 < 1920 ∧ Q (.str (toString i)) G | .str z => Q (.str z) G | _ => False)
    | .list => seqD x G fun xs => ∀ p, G p = none → Q (.ref p) (up G p (.lst xs))
    | .tuple => seqD x G fun xs => Q (.tup xs) G
    | .all => lsD x G fun xs => optD (blsD xs) fun bs => Q (.bl (bs.all id)) G
    | .any => lsD x G fun xs => optD (blsD xs) fun bs => Q (.bl (bs.any id)) G
    | .sum => lsD x G fun xs => optD (intsD xs) fun ns => Q (.int ns.sum) G
    | .repr => reprD x G fun z => Q (.str z) G
    | _ => False)
  | [x, y] => (match b with
    | .max => (match x, y with | .int i, .int j => Q (.int (if j > i then j else i)) G | _, _ => False)
    | .min => (match x, y with | .int i, .int j => Q (.int (if j < i then j else i)) G | _, _ => False)
    | .isi => isiD K x y G fun b => Q (.bl b) G
    | _ => False)
  | _ => False
theorem blsD_at {K : PySem.W.Frag} {H : Hp} : ∀ (ds : List D) {xs : List V} {bs : List Bool}, DenL K H ds xs → blsD ds = some bs → xs = bs.map V.bl := by
  intro ds
  induction ds with
  | nil => intro xs bs h e; cases h; cases e; rfl
  | cons d r ih =>
    intro xs bs h e
    obtain ⟨v, vs, rfl, n, h2⟩ := h
    cases d with
    | bl b =>
      cases n
      simp only [blsD] at e
      cases e2 : blsD r with
      | none => rw [e2] at e; cases e
      | some cs => rw [e2] at e; cases e; rw [ih h2 e2]; rfl
    | _ => cases e
theorem intsD_at {K : PySem.W.Frag} {H : Hp} : ∀ (ds : List D) {xs : List V} {bs : List Int}, DenL K H ds xs → intsD ds = some bs → xs = bs.map V.int := by
  intro ds
  induction ds with
  | nil => intro xs bs h e; cases h; cases e; rfl
  | cons d r ih =>
    intro xs bs h e
    obtain ⟨v, vs, rfl, n, h2⟩ := h
    cases d with
    | int b =>
      cases n
      simp only [intsD] at e
      cases e2 : intsD r with
      | none => rw [e2] at e; cases e
      | some cs => rw [e2] at e; cases e; rw [ih h2 e2]; rfl
    | _ => cases e
theorem seqD.at {K : PySem.W.Frag} {H : Hp} {G : Gp} {x : D} {v : V} {k : List D → Prop} (r : RG K G H) (n : Den K H x v) (h : seqD x G k) : ∃ p ds xs, v = .ref p ∧ (SqL K H p xs ∨ (SqT K H p xs ∧ x = .tup ds)) ∧ DenL K H ds xs ∧ k ds := by
  cases x with
  | tup ds => obtain ⟨p, xs, e, sx, dx⟩ := n; exact ⟨p, ds, xs, e, .inr ⟨sx, rfl⟩, dx, h⟩
  | fls ds => obtain ⟨p, xs, e, sx, dx⟩ := n; exact ⟨p, ds, xs, e, .inl sx.sql, dx, h⟩
  | ref p => obtain ⟨ds, xs, hk, sq, hd, _⟩ := h.sq r; exact ⟨p, ds, xs, n, .inl sq, hd, hk⟩
  | _ => exact h.elim
theorem lsD.at {K : PySem.W.Frag} {H : Hp} {G : Gp} {x : D} {v : V} {k : List D → Prop} (r : RG K G H) (n : Den K H x v) (h : lsD x G k) : ∃ p ds xs, v = .ref p ∧ SqL K H p xs ∧ DenL K H ds xs ∧ k ds := by
  cases x with
  | fls ds => obtain ⟨p, xs, e, sx, dx⟩ := n; exact ⟨p, ds, xs, e, sx.sql, dx, h⟩
  | ref p => obtain ⟨ds, xs, hk, sq, hd, _⟩ := h.sq r; exact ⟨p, ds, xs, n, sq, hd, hk⟩
  | _ => exact h.elim
section
variable {X : Cx}
theorem typD_at {G : Gp} {H : Hp} {x : D} {v : V} {t : Value} (r : RG X.K G H) (n : Den X.K H x v) (h : typD G x = some t) : TyX X.K H v t := by
  cases x with
  | non => cases n; cases h; exact .base .non
  | bl b => cases n; cases h; exact .base (.bl b)
  | int b => cases n; cases h; exact .base (.int b)
  | str b => cases n; cases h; exact .base (.str b)
  | ty _ => cases h
  | exc _ _ => cases h
  | tup ds =>
    obtain ⟨p, xs, rfl, sx, dx⟩ := n
    cases h
    rcases sx with (sx | ⟨o, sx⟩) | ⟨o, its, m, hk, hc, _⟩
    · exact .base (.tup sx)
    · exact .fTuple sx
    · exact .kTuple hk hc
  | fls ds =>
    obtain ⟨p, xs, rfl, sx, dx⟩ := n
    cases h
    rcases sx with ⟨o, sx⟩ | ⟨o, its, m, hk, hc, _⟩
    · exact .base (.frz sx)
    · exact .kList hk hc
  | ref p =>
    cases n
    simp only [typD] at h
    cases eg : G p with
    | none => rw [eg] at h; cases h
    | some o =>
      rw [eg] at h
      have ro := r p o eg
      cases o with
      | lst ds => obtain ⟨xs, h1, _⟩ := ro; cases h; exact .base (.lst h1)
      | dk ds => obtain ⟨xs, h1, _⟩ := ro; cases h; exact .base (.dK h1)
      | _ => cases h
def CallD (X : Cx) (f : Value) (r : List D → Gp → KD → Prop) : Prop :=
  ∀ (ds : List D) (σ : St) (H : Hp) (σd : SD) (G : Gp) (Q : KD) (vs : List V) (pins : List (Addr × Obj)) (s : Shared) (us : List Value), Inv X pins σ H s → RS X.K σd G σ H → DenL X.K H ds vs → Vals vs us → r ds G Q →
    wpAny (model X.prog X.w) X.A (call f us) (EP X pins σ (Res X σ H σd Q)) X.xe s
theorem repr_ok (hc : X.calm = true) (hu : X.A.units + 200 < cLine) (hgd : X.A.guards = some []) (hsm : ∃ o, X.K.lookup sysModules = some o) {x : D} {σ : St} {H : Hp} {σd : SD} {G : Gp} {Q : KD} {v : V} {pins : List (Addr × Obj)} {s : Shared} {u : Value}
    (I : Inv X pins σ H s) (r : RS X.K σd G σ H) (n : Den X.K H x v) (ru : RelV v u) (h : reprD x G fun z => Q (.str z) G) : wpAny (model X.prog X.w) X.A (call (.builtin "repr") [u]) (EP X pins σ (Res X σ H σd Q)) X.xe s := by
  obtain ⟨m, p, e, h1, h2, h3, q⟩ := h
  obtain ⟨as, rd, za⟩ := reads_of I r.ob m x v u p n ru e
  have fin : ∀ h' tk t', (∀ b o, s.heap.get? b = some o → h'.get? b = some o) → EP X pins σ (Res X σ H σd Q) (.str p.shown t') { s with heap := h', toks := tk } := fun h' tk t' k => ⟨.str p.shown, H, I.kept k, ⟨t', rfl⟩, resS r q⟩
  have sm : p.hasDict = true → sysModules ∉ as := fun _ z => by
    obtain ⟨o, ho⟩ := hsm
    exact za _ z (I.bs sysModules o (I.ok.mod.kin _ _ ho)).2
  cases rd with
  | none => exact P.repr_of_none (fin s.heap _ _ fun _ _ z => z)
  | bool b => exact P.repr_of_bool (by cases b <;> exact fin s.heap _ _ fun _ _ z => z)
  | int i t => exact P.repr_of_int (by simpa [PyData.showable] using h1) (fin s.heap _ _ fun _ _ z => z)
  | str z t => exact P.repr_of_str (fin s.heap _ _ fun _ _ z => z) h3
  | list a b c d => exact repr_of_reads' (.list a b c d) h1 sm hgd (by omega) (fun _ _ z => z) (fun h' t' tk k => fin h' tk t' k) h3
  | tuple a b c d => exact repr_of_reads' (.tuple a b c d) h1 sm hgd (by omega) (fun _ _ z => z) (fun h' t' tk k => fin h' tk t' k) h3
  | dict a b c d f => exact repr_of_reads' (.dict a b c d f) h1 sm hgd (by omega) (fun _ _ z => z) (fun h' t' tk k => fin h' tk t' k) h3

/-- what a def's body gives to these rules -/
structure Mx (X : Cx) : Prop where
  calm : X.calm = true
  un : X.A.units + 200 < cLine
  gd : X.A.guards = some []
  sm : ∃ o, X.K.lookup sysModules = some o
theorem len_ok {x : D} {σ : St} {H : Hp} {σd : SD} {G : Gp} {Q : KD} {v : V} {pins : List (Addr × Obj)} {s : Shared} {u : Value} (I : Inv X pins σ H s) (r : RS X.K σd G σ H) (n : Den X.K H x v) (ru : RelV v u) (h : lenD x G fun n => Q (.int n) G) :
    wpAny (model X.prog X.w) X.A (call (.builtin "len") [u]) (EP X pins σ (Res X σ H σd Q)) X.xe s := by
  have fin : ∀ (r' : List V → Hp → VK → Prop), CallR X (.builtin "len") r' → r' [v] H (Res X σ H σd Q) → wpAny (model X.prog X.w) X.A (call (.builtin "len") [u]) (EP X pins σ (Res X σ H σd Q)) X.xe s := fun r' ho hq => ho pins s σ H [v] [u] _ I (.cons ru .nil) hq
  cases x with
  | str y => cases n; exact fin _ call_len ⟨_, y.length, rfl, ⟨h.1, rfl⟩, resI r h.2⟩
  | tup ds =>
    obtain ⟨p, xs, rfl, sx, dx⟩ := n
    exact fin _ call_len ⟨_, ds.length, rfl, .inr ⟨xs, sx, dx.length⟩, resI r h⟩
  | fls ds =>
    obtain ⟨p, xs, rfl, sx, dx⟩ := n
    exact fin _ call_len ⟨_, ds.length, rfl, .inl ⟨xs, sx.sql, dx.length⟩, resI r h⟩
  | ref p =>
    cases n
    simp only [lenD] at h
    cases eg : G p with
    | none => rw [eg] at h; exact h.elim
    | some o =>
      rw [eg] at h
      have ro := r.ob p o eg
      cases o with
      | lst ds => obtain ⟨xs, h1, dx⟩ := ro; exact fin _ call_len ⟨_, ds.length, rfl, .inl ⟨xs, SqL.of h1, dx.length⟩, resI r h⟩
      | dk ds => obtain ⟨xs, h1, dx⟩ := ro; exact fin _ call_lenD ⟨p, xs, rfl, h1, by rw [← dx.length]; exact resI r h⟩
      | _ => exact h.elim
  | _ => exact h.elim
theorem bi_ok (m : Mx X) (b : BI) : CallD X b.val (biR X.K b) := by
  intro ds σ H σd G Q vs pins s us I r ns rv h
  have fin : ∀ (r' : List V → Hp → VK → Prop), CallR X b.val r' → r' vs H (Res X σ H σd Q) → wpAny (model X.prog X.w) X.A (call b.val us) (EP X pins σ (Res X σ H σd Q)) X.xe s := fun r' ho hq => ho pins s σ H vs us _ I rv hq
  cases ds with
  | nil => exact h.elim
  | cons x ds =>
    obtain ⟨v, vs, rfl, n1, ns⟩ := ns
    cases ds with
    | nil =>
      cases ns
      cases b with
      | len =>
        cases rv with
        | cons ru rr => cases rr; exact len_ok I r n1 ru h
      | abs =>
        cases x with
        | int i => cases n1; exact fin _ call_abs ⟨i, rfl, resI r h⟩
        | _ => exact h.elim
      | int =>
        cases x with
        | int i => cases n1; exact fin _ call_int1 (.inl ⟨i, rfl, resI r h⟩)
        | bl c => cases n1; exact fin _ call_int1 (.inr ⟨c, rfl, resI r h⟩)
        | _ => exact h.elim
      | str =>
        cases x with
        | int i => cases n1; exact fin _ call_str_int ⟨i, rfl, h.1, resS r h.2⟩
        | str z => cases n1; exact fin _ SkE.call_str_str ⟨z, rfl, resS r h⟩
        | _ => exact h.elim
      | list =>
        obtain ⟨p, ds, xs, rfl, sq, dx, hk⟩ := seqD.at r.ob n1 h
        exact fin _ call_list_of ⟨p, xs, rfl, sq.imp id (·.1), fun l hl => resL r dx hl hk⟩
      | tuple =>
        obtain ⟨p, ds, xs, rfl, sq, dx, hk⟩ := seqD.at r.ob n1 h
        rcases sq with sq | ⟨sq, e⟩
        · exact fin _ call_tuple_of ⟨p, xs, rfl, .inl ⟨sq, fun l hl => resT r dx hl hk⟩⟩
        · exact fin _ call_tuple_of ⟨p, xs, rfl, .inr ⟨sq, .tup ds, G, ⟨p, xs, rfl, sq, dx⟩, TK.refl, r, hk⟩⟩
      | all =>
        obtain ⟨p, ds, xs, rfl, sq, dx, hk⟩ := lsD.at r.ob n1 h
        obtain ⟨bs, e, q⟩ := hk.at
        have := blsD_at ds dx e
        subst this
        exact fin _ (cr_all m.calm) ⟨p, bs, rfl, sq, resB r q⟩
      | any =>
        obtain ⟨p, ds, xs, rfl, sq, dx, hk⟩ := lsD.at r.ob n1 h
        obtain ⟨bs, e, q⟩ := hk.at
        have := blsD_at ds dx e
        subst this
        exact fin _ (cr_any m.calm) ⟨p, bs, rfl, sq, resB r q⟩
      | sum =>
        obtain ⟨p, ds, xs, rfl, sq, dx, hk⟩ := lsD.at r.ob n1 h
        obtain ⟨bs, e, q⟩ := hk.at
        have := intsD_at ds dx e
        subst this
        exact fin _ (cr_sum m.calm) ⟨p, bs, rfl, sq, resI r q⟩
      | repr =>
        cases rv with
        | cons ru rr => cases rr; exact repr_ok m.calm m.un m.gd m.sm I r n1 ru h
      | _ => exact h.elim
    | cons y ds =>
      obtain ⟨v2, vs2, rfl, n2, ns⟩ := ns
      cases ds with
      | nil =>
        cases ns
        cases b with
        | max =>
          cases x with
          | int i =>
            cases y with
            | int j => cases n1; cases n2; exact fin _ (call_max2 m.calm) ⟨i, j, rfl, resI r h⟩
            | _ => exact h.elim
          | _ => exact h.elim
        | min =>
          cases x with
          | int i =>
            cases y with
            | int j => cases n1; cases n2; exact fin _ (call_min2 m.calm) ⟨i, j, rfl, resI r h⟩
            | _ => exact h.elim
          | _ => exact h.elim
        | isi =>
          have cvs : ∀ c, clsD y = some c → ClsV v2 c := fun c ec => by
            cases y with
            | ty nm => cases ec; cases n2; exact .ty nm
            | ref C => cases ec; cases n2; exact .own C
            | _ => cases ec
          by_cases hx : ∃ C d, x = .exc C d
          · obtain ⟨C, d, rfl⟩ := hx
            have h : isiD X.K (.exc C d) y G fun b => Q (.bl b) G := h
            simp only [isiD] at h
            obtain ⟨c, ec, h1⟩ := h.at
            obtain ⟨b, eb, h2⟩ := h1.at
            obtain ⟨e, dx, oe, od, u, y', rfl, ex, ⟨fI, D, T⟩, _, _⟩ := n1
            obtain ⟨u1, u2, rfl, r1, r2⟩ := vals2 rv
            obtain rfl : u1 = Value.ref e := r1
            have e2 := (cvs c ec).eq r2
            subst e2
            have he := (show ObjOk X.prog X.w H s.heap e (.frz oe (.ext fun _ => True)) from I.hok e _ ex.e).1
            have hd := (show ObjOk X.prog X.w H s.heap dx (.frz od (.ext fun _ => True)) from I.hok dx _ ex.d).1
            obtain ⟨vs, hv⟩ := ex.data
            have J : PySem.W.InstAt s.heap e oe C (some od) := ⟨he, ex.cls, by unfold PySem.W.notCls; rw [hv], by rw [ex.dict]; exact hd⟩
            obtain ⟨cd, hcd, _⟩ := T.cd
            exact PySem.W.kia_one (PySem.W.kitx_exc (od := some od) (ox := oe) (x := e) (by rw [hcd]; rfl) T.ga T.gg T.be T.cl T.sp T.tk T.ob) I.kIn J eb (fun z => nomatch z) fun tk => ⟨.bl b, H, I.tok tk, rfl, resB r h2⟩
          have h : optD (typD G x) fun t => optD (clsD y) fun u => optD (PySem.W.kitOne X.K t u) fun b => Q (.bl b) G := by
            cases x with
            | exc C d => exact (hx ⟨C, d, rfl⟩).elim
            | _ => exact h
          obtain ⟨t, et, h⟩ := h.at
          obtain ⟨c, ec, h⟩ := h.at
          obtain ⟨b, eb, h⟩ := h.at
          have cv := cvs c ec
          exact fin _ call_isi ⟨v, v2, t, c, b, rfl, cv, typD_at r.ob n1 et, eb, resB r h⟩
        | _ => exact h.elim
      | cons z ds => exact h.elim
end
end DL
end
section
/-! D12: the text without its places: small facts of the syntax. -/
namespace DL
open PySem PySem.Spec PyProof.Rows L2

def isStar : Expr → Bool
  | .Starred .. => true
  | _ => false
def isComp : Expr → Bool
  | .ListComp .. => true
  | .SetComp .. => true
  | .DictComp .. => true
  | _ => false
def isSet : Expr → Bool
  | .Set .. => true
  | _ => false
def isSlice : Expr → Bool
  | .Slice .. => true
  | _ => false
def isTup : Expr → Bool
  | .Tuple .. => true
  | .List .. => true
  | _ => false
/-- an expression whose test is its value's truth -/
def isPlainT : Expr → Bool
  | .UnaryOp .Not _ _ => false
  | .BoolOp .. => false
  | .IfExp .. => false
  | .Compare .. => false
  | _ => true
section
variable {env : Env}
theorem star_cons {e : Expr} {es : List Expr} (h : isStar e = false) : starEach (e :: es) env = (false, eval e env) :: starEach es env := by
  cases e <;> first | rfl | cases h
theorem asg_cons {e : Expr} {es : List Expr} (h : isStar e = false) : (assignEach (e :: es) env).map (·.2) = assign e env :: (assignEach es env).map (·.2) := by
  cases e <;> first | rfl | cases h
theorem asg_len : ∀ {es : List Expr}, (assignEach es env).length = es.length
  | [] => rfl
  | e :: es => by
    have ih := asg_len (es := es)
    cases e <;> (show (assignEach es env).length + 1 = es.length + 1; rw [ih])
theorem asg_star : ∀ {es : List Expr}, (es.all fun e => !isStar e) = true → (assignEach es env).findIdx? (·.1) = none
  | [], _ => rfl
  | e :: es, h => by
    rw [List.all_cons, Bool.and_eq_true] at h
    have ih := asg_star h.2
    have hs : isStar e = false := by simpa using h.1
    cases e <;> first | (cases hs; done) | (show ((false, _) :: assignEach es env).findIdx? _ = none; rw [List.findIdx?_cons, ih]; rfl)
theorem back_star {pos : Pos} : ∀ {es : List Expr}, (es.all fun e => !isStar e) = true → (backTo pos (starEach es env)).any (·.1) = false
  | [], _ => rfl
  | e :: es, h => by
    rw [List.all_cons, Bool.and_eq_true] at h
    have hs : isStar e = false := by simpa using h.1
    rw [star_cons hs]
    show (false || (backTo pos (starEach es env)).any (·.1)) = false
    rw [back_star h.2]; rfl
theorem swap_no {e : Expr} {t : Option Expr} {l : Nat} (h : isComp e = false) : swapsWith e t l env = pure false := by
  cases e <;> first | rfl | cases h
theorem swap_sole {tg e : Expr} {l : Nat} (h : isComp e = false) : swapsWithSole [tg] e l env = pure false := swap_no h
theorem fold_no {e : Expr} (h : isSet e = false) : ∀ x, foldedSetIterable e env x = pure x := by
  intro x; cases e <;> first | rfl | cases h
theorem plain_ix {e : Expr} (h : isSlice e = false) : PlainIx e := by
  intro o i; cases e <;> first | rfl | cases h
theorem stores_no {tg e : Expr} (h : isTup tg = false) : swappedStores [tg] e env = pure none := by
  cases tg <;> first | rfl | cases h
theorem stores_no2 {ts : List Expr} {k : Nat} {p : Pos} {e : Expr} (h : isTup e = false) : swappedStores [.Tuple ts k p] e env = pure none := by
  cases e <;> first | rfl | cases h
theorem test_plain {e : Expr} (h : isPlainT e = true) : ∀ whole, isTrue e env whole = (do let v ← whole; standAt e.pos; holding [v] (truthy v)) := by
  intro whole
  cases e <;> first | rfl | (cases h; done) | (rename_i op _ _; cases op <;> first | rfl | cases h)
theorem mark_no {op : CmpOp} {e : Expr} (h : isSet e = false) : behindInMarks op e = false := by
  cases e <;> first | rfl | cases h
theorem marks_no {o1 o2 : CmpOp} {b c : Expr} (h : isSet c = false) : lastMarks [o1, o2] [b, c] = false := mark_no h
theorem sub_asg {a b : Expr} {pos : Pos} (h : isSlice b = false) (v : Value) : assign (.Subscript a b pos) env v = (do
      let ov ← holding [v] (eval a env)
      let iv ← holding [v, ov] (eval b env)
      standAt pos
      holding [v, ov, iv] (setItem ov iv v)
      release [v, ov, iv] []) := by
  cases b <;> first | rfl | cases h
end
end DL
end
section
/-! D13: calls of built-ins, further tests. -/
namespace DL
open PySem PySem.Spec PyProof.Rows L2
section
variable {X : Cx} {a b c e : Expr} {es : List Expr} {ta tb tc te : TED} {t : TAD} {pos p : Pos} {t1 t2 t3 : TTD}
def dBca (K : PySem.W.Frag) (b : BI) (t : TAD) : TED := fun σ G Q E => t σ G (fun ds G1 => biR K b ds G1 Q) E
theorem BI.plain (b : BI) : b.name ≠ "__name__" ∧ (b.name == ("__debug__" : Str)) = false := by cases b <;> exact ⟨by decide, by decide⟩
theorem de_bca (m : Mx X) (b : BI) (hg : Gl X b.name) (hm : X.mg b.name = none) (ha : DA X (e :: es) t) (he : starEach (e :: es) X.env = (false, eval e X.env) :: starEach es X.env) (hpl : (backTo pos (starEach es X.env)).any (·.1) = false) :
    DE X (.Call (.Name b.name p) (e :: es) [] pos) (dBca X.K b t) := by
  refine ⟨fun pins s σ H σd G He E Q I r tk tx h => ?_⟩
  refine wpAny_Call_Name_kw (ld_blt I hg hm b.boot ?_ b.plain.1 b.plain.2)
  have run : wpAny (model X.prog X.w) X.A (spliced (backTo pos (starEach (e :: es) X.env))) (fun us s1 => wpAny (model X.prog X.w) X.A (call b.val us) (PDe X pins σ H σd Q) X.xe s1) X.xe s :=
    thn (ha.run pos pins s σ H σd G He E _ I r tk tx h) fun us s1 ⟨vs, H1, ds, G1, I1, rv, ns, k1, r1, q⟩ => thn (bi_ok m b ds σ H1 σd G1 Q vs pins s1 us I1 r1 ns rv q) fun u s2 z => after k1 z
  have run1 : ∀ id, b.val = .builtin id → wpAny (model X.prog X.w) X.A (callWith pos b.val [] (backTo pos (starEach (e :: es) X.env)) (backToKw pos (keywordEach [] X.env))) (PDe X pins σ H σd Q) X.xe s := fun id hv => by
    rw [hv] at run ⊢
    exact PyProof.Rows.callWith_builtin1 run he hpl
  have run2 : ∀ T, b.val = .type T → wpAny (model X.prog X.w) X.A (callWith pos b.val [] (backTo pos (starEach (e :: es) X.env)) (backToKw pos (keywordEach [] X.env))) (PDe X pins σ H σd Q) X.xe s := fun T hv => by
    rw [hv] at run ⊢
    exact PyProof.Rows.callWith_type1 run he hpl
  cases b <;> first | exact run1 _ rfl | exact run2 _ rfl
def dIfT (tc : TTD) (ta tb : TTD) : TTD := fun σ G Q E => tc σ G (fun b G1 => if b = true then ta σ G1 Q E else tb σ G1 Q E) E
theorem dt_ife (hc : DT X c t1) (ha : DT X a t2) (hb : DT X b t3) : DT X (.IfExp c a b pos) (dIfT t1 t2 t3) := ⟨fun pins s σ H σd G He E Q I r tk tx h => by
  show wpAny _ _ (do if ← isTrue c X.env (eval c X.env) then isTrue a X.env (eval a X.env) else isTrue b X.env (eval b X.env)) _ _ s
  refine wpAny_bind (thn (hc.run pins s σ H σd G He E _ I r tk tx h) fun d s1 ⟨H1, G1, I1, k1, r1, q⟩ => ?_)
  cases d with
  | true => exact thn (ha.run pins s1 σ H1 σd G1 He E Q I1 r1 (tk.trans k1) tx q) fun u s2 ⟨H2, G2, I2, k2, r2, q2⟩ => ⟨H2, G2, I2, k1.trans k2, r2, q2⟩
  | false => exact thn (hb.run pins s1 σ H1 σd G1 He E Q I1 r1 (tk.trans k1) tx q) fun u s2 ⟨H2, G2, I2, k2, r2, q2⟩ => ⟨H2, G2, I2, k1.trans k2, r2, q2⟩⟩
/-- a chain as a test -/
def dChainT (o1 o2 : CmpOp) (ta tb tc : TED) : TTD := fun σ G Q E => ta σ G (fun x G1 => tb σ G1 (fun y G2 => cmpR o1 x y G2 fun b => if b = true then tc σ G2 (fun z G3 => cmpR o2 y z G3 fun k => Q k G3) E else Q false G2) E) E
theorem dt_chain (hu : X.A.units + 64 < cLine) (o1 o2 : CmpOp) (ha : DE X a ta) (hb : DE X b tb) (hc : DE X c tc) (hm : lastMarks [o1, o2] [b, c] = false) : DT X (.Compare a [o1, o2] [b, c] pos) (dChainT o1 o2 ta tb tc) :=
  ⟨fun pins s σ H σd G He E Q I r tk tx h => by
    refine isTrue_chain (thn (ha.run pins s σ H σd G He E _ I r tk tx h) fun v s1 ⟨x, H1, d1, G1, I1, rx, n1, k1, r1, q1⟩ => test_link (thn (hb.run pins s1 σ H1 σd G1 He E _ I1 r1 (tk.trans k1) tx q1) fun u s2 ⟨y, H2, d2, G2, I2, ry, n2, k2, r2, q2⟩ =>
      thn (cmp_ok hu o1 d1 d2 σ H2 σd G2 _ x y pins s2 v u I2 r2 (n1.keep k2) n2 rx ry (cmpR_cmp q2)) fun w s3 ⟨z, H3, I3, rz, d3, G3, n3, k3, r3, b, e1, e2, kb⟩ => ?_)) hm
    subst e1; subst e2
    cases n3
    cases rz
    refine wpAny_truthy_bool ?_
    cases b with
    | false => exact ite_ff ⟨H3, G3, I3, (k1.trans k2).trans k3, r3, kb⟩
    | true => exact ite_tt (test_last (thn (hc.run pins s3 σ H3 σd G3 He E _ I3 r3 (((tk.trans k1).trans k2).trans k3) tx kb) fun w' s4 ⟨z', H4, d4, G4, I4, r4, n4, k4, r4', q4⟩ =>
        thn (cmp_ok hu o2 d2 d4 σ H4 σd G4 _ y z' pins s4 u w' I4 r4' ((n2.keep k3).keep k4) n4 ry r4 (cmpR_cmp q4)) fun w5 s5 ⟨z5, H5, I5, rz5, d5, G5, n5, k5, r5, b5, e5, e6, kb5⟩ => by
          subst e5; subst e6
          cases n5
          cases rz5
          exact wpAny_truthy_bool ⟨H5, G5, I5, (((k1.trans k2).trans k3).trans k4).trans k5, r5, kb5⟩))⟩
/-! ### list(range(..)) -/
def dLrg (t : TAD) : TED := fun σ G Q E => t σ G (fun ds G1 => match ds with
  | [.int j] => RgOk 0 j ∧ ∀ p, G1 p = none → Q (.ref p) (up G1 p (.lst ((List.range j.toNat).map fun i => .int (i : Nat))))
  | _ => False) E
theorem den_ints {K : PySem.W.Frag} {H : Hp} {f : Nat → Int} : ∀ l : List Nat, DenL K H (l.map fun i => D.int (f i)) (l.map fun i => V.int (f i))
  | [] => rfl
  | i :: l => DenL.cons rfl (den_ints l)
theorem de_lrg {q pq : Pos} (hc : X.calm = true) (hg : Gl X "list") (hm : X.mg "list" = none) (hg2 : Gl X "range") (hm2 : X.mg "range" = none) (ha : DE X a ta) (h1 : isStar a = false) : DE X (.Call (.Name "list" p) [.Call (.Name "range" pq) [a] [] q] [] pos) (dLrg (dCons ta dNil)) :=
  DE.of (pe_listRg hc hg hm (prg_1 hg2 hm2 ha.pe (star_cons h1)) rfl) fun σ H σd G He E Q r tk tx h => ⟨σd, G, He, E, _, r, tk, tx, h, fun v H1 x G1 n1 k1 r1 q1 => by
    cases x with
    | int j =>
      cases n1
      obtain ⟨ok, q⟩ := q1
      refine ⟨j, rfl, ok, fun l hl => ?_⟩
      have dl : DenL X.K H1 ((List.range j.toNat).map fun i => D.int (i : Nat)) (rgV 0 j) := by
        unfold rgV
        have := den_ints (K := X.K) (H := H1) (f := fun i => (i : Int)) (List.range j.toNat)
        simpa using this
      obtain ⟨d, G', n, k2, r2, q2⟩ := resL (Q := Q) r1 dl hl q
      exact ⟨d, G', n, k1.trans k2, r2, q2⟩
    | _ => exact (show False from q1).elim⟩
end
end DL
end
section
/-! D14: dict displays. -/
namespace DL
open PySem PySem.Spec PyProof.Rows L2
def dPairs : List (TED × TED) → SD → Gp → (List (D × D) → Gp → Prop) → XD → Prop
  | [], _, G, Q, _ => Q [] G
  | (tk, tv) :: r, σ, G, Q, E => tk σ G (fun k G1 => tv σ G1 (fun v G2 => dPairs r σ G2 (fun ps G3 => Q ((k, v) :: ps) G3) E) E) E
def keysD : List (D × D) → Option (List (Key × D))
  | [] => some []
  | (k, v) :: r => match keyD k, keysD r with
    | some key, some kvs => some ((key, v) :: kvs)
    | _, _ => none
def mergeD (kvs more : List (Key × D)) : List (Key × D) := more.foldl (fun acc kv => putD acc kv.1 kv.2) kvs
def dDic (trs : List (TED × TED)) : TED := fun σ G Q E => ∀ p, G p = none → dPairs trs σ (up G p (.dk [])) (fun ps G2 => G2 p = some (.dk []) ∧ optD (keysD ps) fun kvs => kvs.length ≤ 15 ∧ Q (.ref p) (up G2 p (.dk (mergeD [] kvs)))) E
def dDic0 : TED := fun _ G Q _ => ∀ p, G p = none → Q (.ref p) (up G p (.dk []))
def DenPs (K : PySem.W.Frag) (H : Hp) : List (D × D) → List (V × V) → Prop
  | [], ps => ps = []
  | (k, v) :: r, ps => ∃ x y qs, ps = (x, y) :: qs ∧ Den K H k x ∧ Den K H v y ∧ DenPs K H r qs
section
variable {K : PySem.W.Frag} {H : Hp}
theorem keysD_at : ∀ {r : List (D × D)} {ps : List (V × V)} {kvs : List (Key × D)}, DenPs K H r ps → keysD r = some kvs → ∃ ws : List (Key × V), ps = ws.map (fun kv => (kV kv.1, kv.2)) ∧ DenKV K H kvs ws ∧ ws.length = kvs.length := by
  intro r
  induction r with
  | nil => intro ps kvs h e; cases h; cases e; exact ⟨[], rfl, rfl, rfl⟩
  | cons a r ih =>
    intro ps kvs h e
    obtain ⟨k, v⟩ := a
    obtain ⟨x, y, qs, rfl, n1, n2, h2⟩ := h
    simp only [keysD] at e
    cases e1 : keyD k with
    | none => rw [e1] at e; cases e
    | some key =>
      cases e2 : keysD r with
      | none => rw [e1, e2] at e; cases e
      | some ks =>
        rw [e1, e2] at e; cases e
        obtain ⟨ws, e3, d, l⟩ := ih h2 e2
        have := keyD_den n1 e1
        subst this
        exact ⟨(key, y) :: ws, by rw [e3]; rfl, ⟨y, ws, rfl, n2, d⟩, by rw [List.length_cons, List.length_cons, l]⟩
theorem merge_den : ∀ {more : List (Key × D)} {ms : List (Key × V)} {kvs : List (Key × D)} {ws : List (Key × V)}, DenKV K H more ms → DenKV K H kvs ws → DenKV K H (mergeD kvs more) (mergeK ws ms) := by
  intro more
  induction more with
  | nil => intro ms kvs ws h h'; cases h; exact h'
  | cons a r ih =>
    intro ms kvs ws h h'
    obtain ⟨k, v⟩ := a
    obtain ⟨y, vs, rfl, n, h2⟩ := h
    exact ih (ms := vs) (kvs := putD kvs k v) (ws := putK ws k y) h2 (putD_den n h')
end
section
variable {X : Cx} {pos : Pos} {keys : List (Option Expr)} {values : List Expr}
theorem pairs_read {trs : List (TED × TED)} {σ : St} {σd : SD} {He : Hp} {E : XD} (tx : Takes X (WD X.K He E)) : ∀ {H : Hp} {G : Gp} {Qd : List (D × D) → Gp → Prop} {Q : List (V × V) → Hp → Prop}, RS X.K σd G σ H → TK He H → dPairs trs σd G Qd E →
    (∀ ps dps H' G', DenPs X.K H' dps ps → TK H H' → RS X.K σd G' σ H' → Qd dps G' → Q ps H') → tPairs (trs.map fun q => (dnE X q.1, dnE X q.2)) σ H Q := by
  induction trs with
  | nil => intro H G Qd Q r tk h hq; exact hq [] [] H G rfl TK.refl r h
  | cons a r ih =>
    intro H G Qd Q rr tk h hq
    obtain ⟨ta, tb⟩ := a
    refine ⟨σd, G, He, E, _, rr, tk, tx, h, fun x H1 k G1 n1 k1 r1 q1 => ⟨σd, G1, He, E, _, r1, tk.trans k1, tx, q1, fun y H2 v G2 n2 k2 r2 q2 => ?_⟩⟩
    refine ih r2 ((tk.trans k1).trans k2) q2 fun ps dps H3 G3 n3 k3 r3 q3 => hq ((x, y) :: ps) ((k, v) :: dps) H3 G3 ⟨x, y, ps, rfl, (n1.keep k2).keep k3, n2.keep k3, n3⟩ ((k1.trans k2).trans k3) r3 q3
theorem de_dic0 : DE X (.Dict [] [] pos) dDic0 := DE.of pe_dnewK fun σ H σd G He E Q r tk tx h p hp =>
  ⟨.ref p, up G p (.dk []), rfl, TK.new hp, r.to (TK.new hp) (r.ob.new hp ⟨[], upd_same, rfl⟩), h p (r.ob.free hp)⟩
theorem de_dic {trs : List (TED × TED)} (h : PPs X pos keys values (trs.map fun q => (dnE X q.1, dnE X q.2))) (hall : keys.all (·.isSome) = true) (hl : keys.length = values.length) (h0 : keys ≠ []) (h15 : keys.length ≤ 15) : DE X (.Dict keys values pos) (dDic trs) :=
  DE.of (pe_disp h hall hl h0 h15) fun σ H σd G He E Q r tk tx h p hp => by
    have kn : TK H (upd H p (.dK [])) := TK.new hp
    refine pairs_read tx (r.to kn (r.ob.new (o := .dk []) hp ⟨[], upd_same, rfl⟩)) (tk.trans kn) (h p (r.ob.free hp)) fun ps dps H2 G2 n2 k2 r2 ⟨e2, q2⟩ => ?_
    obtain ⟨kvs, ek, lk, q⟩ := q2.at
    obtain ⟨ws, e3, d, l⟩ := keysD_at n2 ek
    obtain ⟨zs, hz, dz⟩ := r2.ob p _ e2
    cases dz
    have km : TK H2 (upd H2 p (.dK (mergeK [] ws))) := TK.mut hz trivial
    refine ⟨hz, ws, e3, by rw [l]; exact lk, .ref p, up G2 p (.dk (mergeD [] kvs)), rfl, (kn.trans k2).trans km, r2.to km (r2.ob.put hz trivial ⟨_, upd_same, (merge_den d (kvs := []) (ws := []) rfl).keep km⟩), q⟩
end
/-! ### looks -/
def visB (sc : Scope) (x : Str) : Bool := match sc.names.lookup x with
  | some .local => true
  | some .cell => true
  | some .free => true
  | _ => false
def locB (sc : Scope) (x : Str) : Bool := match sc.names.lookup x with
  | some .local => true
  | some .cell => true
  | _ => false
def lclB (sc : Scope) (x : Str) : Bool := match sc.names.lookup x with
  | some .local => true
  | _ => false
def glB (sc : Scope) (x : Str) : Bool := match sc.names.lookup x with
  | some .globalImplicit => true
  | _ => false
def okN (x : Str) : Bool := !(x == ("__debug__" : Str)) && !(x == ("__classdict__" : Str)) && !(x == ("__name__" : Str))
def fnK (sc : Scope) : Bool := match sc.kind with
  | .function => true
  | _ => false
theorem an {a b : Bool} (h : (a && b) = true) : a = true ∧ b = true := Bool.and_eq_true_iff.mp h
theorem ng {a : Bool} (h : (!a) = true) : a = false := by simpa using h
theorem visB_ok {sc : Scope} {x : Str} (h : visB sc x = true) : Vis sc x := by
  unfold visB at h
  cases e : sc.names.lookup x with
  | none => rw [e] at h; cases h
  | some kd =>
    rw [e] at h
    cases kd with
    | «local» => exact .inl e
    | cell => exact .inr (.inl e)
    | free => exact .inr (.inr e)
    | _ => cases h
theorem locB_ok {sc : Scope} {x : Str} (h : locB sc x = true) : Loc sc x := by
  unfold locB at h
  cases e : sc.names.lookup x with
  | none => rw [e] at h; cases h
  | some kd =>
    rw [e] at h
    cases kd with
    | «local» => exact .inl e
    | cell => exact .inr e
    | _ => cases h
theorem lclB_ok {sc : Scope} {x : Str} (h : lclB sc x = true) : sc.names.lookup x = some .local := by
  unfold lclB at h
  cases e : sc.names.lookup x with
  | none => rw [e] at h; cases h
  | some kd =>
    rw [e] at h
    cases kd with
    | «local» => rfl
    | _ => cases h
theorem glB_ok {sc : Scope} {x : Str} (h : glB sc x = true) : sc.names.lookup x = some .globalImplicit := by
  unfold glB at h
  cases e : sc.names.lookup x with
  | none => rw [e] at h; cases h
  | some kd =>
    rw [e] at h
    cases kd with
    | globalImplicit => rfl
    | _ => cases h
theorem okN_ok {x : Str} (h : okN x = true) : (x == ("__debug__" : Str)) = false ∧ (x == ("__classdict__" : Str)) = false ∧ x ≠ "__name__" := by
  unfold okN at h
  obtain ⟨h, h3⟩ := an h
  obtain ⟨h1, h2⟩ := an h
  exact ⟨ng h1, ng h2, fun z => by rw [z] at h3; exact absurd h3 (by decide)⟩

theorem fnK_ok {sc : Scope} (h : fnK sc = true) : sc.kind = .function := by
  unfold fnK at h
  cases e : sc.kind <;> rw [e] at h <;> first | rfl | cases h
end DL
end
section
/-! E1: errors of the program's own: __init__ says super().__init__(value); self.value = value. -/
namespace DL
open PySem PySem.Spec PyProof.Rows L2

def initBody : List Stmt → Bool
  | [.Expr (.Call (.Attribute (.Call (.Name a _) [] [] _) b p2) [.Name c _] [] p4) _, .Assign [.Attribute (.Name d _) e _] (.Name f _) _] =>
    decide (a = "super") && decide (b = "__init__") && decide (c = "value") && decide (d = "self") && decide (e = "value") && decide (f = "value") && (p2.endLine == p4.line)
  | _ => false
def initParams : Arguments → Bool
  | ⟨[], [a, b], none, [], [], none, []⟩ => decide (a.arg = "self") && decide (b.arg = "value")
  | _ => false
def initScope (sc : Scope) : Bool := fnK sc && !sc.isCoroutine && !sc.isGenerator && (sc.names.all fun x => decide (x.2 ≠ .cell)) && glB sc "super" && decide (sc.names.lookup ("__class__" : Str) = some NameKind.free) && lclB sc "self" && lclB sc "value"
def cellB (K : PySem.W.Frag) (cc D : Addr) : Bool := match K.lookup cc with
  | some ⟨_, _, .cell (some (.ref D')), _⟩ => decide (D' = D)
  | _ => false
def fileB (P : Program) (K : PySem.W.Frag) (cda : Addr) : Bool := match K.lookup cda with
  | some ⟨_, _, .fields vs, _⟩ => (match (vs.toList[2]? : Option Value) with
    | some (.str file _) => (P.main.file : Str) == file
    | _ => false)
  | _ => false
def initFd (P : Program) (K : PySem.W.Frag) (D : Addr) (fd : FuncData) : Bool := (match fd.body with
  | .stmts b => initBody b
  | _ => false) && initParams fd.params && initScope fd.scope && decide (fd.globals = mainGlobals) && decide (fd.builtins = builtinsNs) && (match fd.closure with
  | [(x, cc)] => decide (x = "__class__") && cellB K cc D
  | _ => false) && (match fd.code with
  | .ref cda => PySem.W.codeIn K (.ref cda) fd.qualname && fileB P K cda
  | _ => false) && decide (fd.defaults = .none)
def initB (P : Program) (K : PySem.W.Frag) (fI D : Addr) : Bool := (match K.lookup fI with
  | some ⟨_, _, .func fd, _⟩ => initFd P K D fd
  | _ => false) && decide (PySem.W.typeIn K (.ref fI) = some (.type "function")) && (PySem.W.clsIn K D).isSome && !(P.main.scope.names.lookup ("super" : Str)).isSome && decide (PySem.W.nsIn K mainGlobals "super" = some none) && decide (PySem.W.nsIn K cStatics "thirdparty.any" = some none)
/-- the class at C, over D -/
def ordB (K : PySem.W.Frag) (fI D C : Addr) : Bool :=
  PySem.W.excInitIn K C HandSPX.veTail "ValueError.__new__" && decide (PySem.W.findIn K (.ref C) "__init__" = some (some (.ref fI))) && decide (PySem.W.ks_superIn K C D "__init__" = some (some (.builtin "ValueError.__init__"))) &&
  decide (PySem.W.subIn K (.ref C) (.type "ValueError") = some true) && decide (PySem.W.mroIn K C (.ref D) = some true) && decide (PySem.W.findIn K (.ref C) "__setattr__" = some (some (.builtin "object.__setattr__"))) &&
  (match PySem.W.clsIn K C with
  | some cd => HandSPX.refsVE cd.mro && cd.hasDict
  | none => false) && decide (PySem.W.findIn K (.ref C) "value" = some none) && PySem.W.keepIn K (.ref C) &&
  decide (PySem.W.findIn K (.ref C) "__getattribute__" = some (some (.builtin "BaseException.__getattribute__"))) && decide (PySem.W.findIn K (.ref C) "__getattr__" = some none) && decide (PySem.W.subIn K (.ref C) (.type "BaseException") = some true) && decide (PySem.W.typeIn K (.ref C) = some (.type "type")) &&
  decide (PySem.W.findIn K (.ref C) "__class__" = some (some (.builtin "object.__class__"))) && decide (PySem.W.mroIn K C (.type "object") = some true) && decide (PySem.W.specialIn K (.builtin "object.__class__") "__get__" = some (some (.builtin "getset_descriptor.__get__"))) && decide (PySem.W.takesIn K (.builtin "object.__class__") = some true)
theorem ordC_of {K : PySem.W.Frag} {fI D C : Addr} (h : ordB K fI D C = true) : OrdC K fI D C := by
  unfold ordB at h
  obtain ⟨h, h17⟩ := an h
  obtain ⟨h, h16⟩ := an h
  obtain ⟨h, h15⟩ := an h
  obtain ⟨h, h14⟩ := an h
  obtain ⟨h, h13⟩ := an h
  obtain ⟨h, h12⟩ := an h
  obtain ⟨h, h11⟩ := an h
  obtain ⟨h, h10⟩ := an h
  obtain ⟨h, h9⟩ := an h
  obtain ⟨h, h8⟩ := an h
  obtain ⟨h, h7⟩ := an h
  obtain ⟨h, h6⟩ := an h
  obtain ⟨h, h5⟩ := an h
  obtain ⟨h, h4⟩ := an h
  obtain ⟨h, h3⟩ := an h
  obtain ⟨h1, h2⟩ := an h
  refine ⟨h1, of_decide_eq_true h2, of_decide_eq_true h3, of_decide_eq_true h4, of_decide_eq_true h5, of_decide_eq_true h6, ?_, of_decide_eq_true h8, h9, of_decide_eq_true h10, of_decide_eq_true h11, of_decide_eq_true h12, of_decide_eq_true h13, of_decide_eq_true h14, of_decide_eq_true h15, of_decide_eq_true h16, of_decide_eq_true h17⟩
  cases e : PySem.W.clsIn K C with
  | none => rw [e] at h7; cases h7
  | some cd =>
    rw [e] at h7
    obtain ⟨a, b⟩ := an h7
    exact ⟨cd, rfl, a, b⟩
/-- the function's text, its cell, its code object -/
structure OrdI (P : Program) (K : PySem.W.Frag) (fI D : Addr) : Prop where
  fn : ∃ oc od osl nm qual params body scope kV doc pm an ct cc cda, K.lookup fI = some ⟨oc, od, .func (PySem.W.ksFn nm qual params body scope .none kV doc pm an (.ref cda) ct cc), osl⟩ ∧ PySem.W.codeIn K (.ref cda) qual = true ∧ initBody body = true ∧ initParams params = true ∧ initScope scope = true ∧ cellB K cc D = true ∧ fileB P K cda = true
  ty : PySem.W.typeIn K (.ref fI) = some (.type "function")
  cls : (PySem.W.clsIn K D).isSome = true
  top : (P.main.scope.names.lookup ("super" : Str)).isSome = false
  sup : PySem.W.nsIn K mainGlobals "super" = some none
  op : PySem.W.nsIn K cStatics "thirdparty.any" = some none
theorem ordI_of {P : Program} {K : PySem.W.Frag} {fI D : Addr} (h : initB P K fI D = true) : OrdI P K fI D := by
  unfold initB at h
  obtain ⟨h, h6⟩ := an h
  obtain ⟨h, h5⟩ := an h
  obtain ⟨h, h4⟩ := an h
  obtain ⟨h, h3⟩ := an h
  obtain ⟨h1, h2⟩ := an h
  refine ⟨?_, of_decide_eq_true h2, h3, ng h4, of_decide_eq_true h5, of_decide_eq_true h6⟩
  cases q : K.lookup fI with
  | none => rw [q] at h1; cases h1
  | some o =>
    obtain ⟨oc, od, dt, osl⟩ := o
    rw [q] at h1
    cases dt with
    | func fd =>
      have h1 : initFd P K D fd = true := h1
      obtain ⟨nm, qual, params, fb, scope, gl, clo, dV, kV, doc, pm, ann, cdv, ct, bl⟩ := fd
      unfold initFd at h1
      obtain ⟨h1, k8⟩ := an h1
      obtain ⟨h1, k7⟩ := an h1
      obtain ⟨h1, k6⟩ := an h1
      obtain ⟨h1, k5⟩ := an h1
      obtain ⟨h1, k4⟩ := an h1
      obtain ⟨h1, k3⟩ := an h1
      obtain ⟨k1, k2⟩ := an h1
      obtain rfl : gl = mainGlobals := of_decide_eq_true k4
      obtain rfl : bl = builtinsNs := of_decide_eq_true k5
      obtain rfl : dV = .none := of_decide_eq_true k8
      cases fb with
      | stmts body =>
        match clo, k6 with
        | [(x, cc)], k6 =>
          obtain ⟨c1, c2⟩ := an (show (decide (x = "__class__") && cellB K cc D) = true from k6)
          obtain rfl : x = "__class__" := of_decide_eq_true c1
          cases cdv with
          | ref cda =>
            obtain ⟨d1, d2⟩ := an (show (PySem.W.codeIn K (.ref cda) qual && fileB P K cda) = true from k7)
            exact ⟨oc, od, osl, nm, qual, params, body, scope, kV, doc, pm, ann, ct, cc, cda, rfl, d1, k1, k2, k3, c2, d2⟩
          | _ => cases k7
        | [], k6 => cases k6
        | _ :: _ :: _, k6 => cases k6
      | _ => cases k1
    | _ => cases h1
end DL
end
section
/-! E2: C(v), over the bare heap. -/
namespace DL
open PySem PySem.Spec PyProof.Rows L2

theorem back_all {pos : Pos} {env : Env} : ∀ {es : List Expr}, (es.all fun e => !isStar e) = true → (backTo pos (starEach es env)).all (fun x => !x.1) = true
  | [], _ => rfl
  | e :: es, h => by
    rw [List.all_cons, Bool.and_eq_true] at h
    have hs : isStar e = false := by simpa using h.1
    rw [star_cons hs]
    show (!false && (backTo pos (starEach es env)).all (fun x => !x.1)) = true
    rw [back_all h.2]; rfl
/-- o.name(e, ..) -/
theorem eval_meth {o : Expr} {name : Str} {apos pos : Pos} {args : List Expr} {env : Env} (hl : (apos.endLine == pos.line) = true) (hs : (args.all fun e => !isStar e) = true) (hn : args.length < 30) :
    eval (.Call (.Attribute o name apos) args [] pos) env = (do
      let ov ← attributeBase o name env (eval o env)
      standAt apos.atName
      let (f, first) ← holding [ov] (getMethod ov name (do return (← importBound o env).getD true))
      callWith pos f first (backTo pos (starEach args env)) []) := by
  have hform : methodCallForm (args.length + ([] : List Keyword).length) (backTo pos (starEach args env)) (backToKw pos (keywordEach [] env)) = true := by
    unfold methodCallForm
    rw [back_all hs]
    exact decide_eq_true (show args.length + 0 + 0 < 30 by omega)
  have hpos : methodCallPos true o env apos pos = pure pos := by unfold methodCallPos; simp [hl]
  show (do
    let ov ← attributeBase o name env (eval o env)
    standAt apos.atName
    methodCall o name apos pos env ov (args.length + ([] : List Keyword).length) (backTo pos (starEach args env)) (backToKw pos (keywordEach [] env))) = _
  unfold methodCall
  rw [hform, hpos]
  rfl
theorem initBody_ok {b : List Stmt} (h : initBody b = true) : ∃ p0 p1 p2 p3 p4 p5 p6 p7 p8 p9, (p2.endLine == p4.line) = true ∧ b = [.Expr (.Call (.Attribute (.Call (.Name "super" p0) [] [] p1) "__init__" p2) [.Name "value" p3] [] p4) p5, .Assign [.Attribute (.Name "self" p6) "value" p7] (.Name "value" p8) p9] := by
  unfold initBody at h
  split at h
  · rename_i a p0 p1 bb p2 c p3 p4 p5 d p6 e p7 f p8 p9
    obtain ⟨h, h7⟩ := an h
    obtain ⟨h, h6⟩ := an h
    obtain ⟨h, h5⟩ := an h
    obtain ⟨h, h4⟩ := an h
    obtain ⟨h, h3⟩ := an h
    obtain ⟨h1, h2⟩ := an h
    obtain rfl := of_decide_eq_true h1
    obtain rfl := of_decide_eq_true h2
    obtain rfl := of_decide_eq_true h3
    obtain rfl := of_decide_eq_true h4
    obtain rfl := of_decide_eq_true h5
    obtain rfl := of_decide_eq_true h6
    exact ⟨_, _, _, _, _, _, _, _, _, _, h7, rfl⟩
  · cases h
theorem initParams_ok {p : Arguments} (h : initParams p = true) : ∃ a b : Arg, p = ⟨[], [a, b], none, [], [], none, []⟩ ∧ a.arg = "self" ∧ b.arg = "value" := by
  unfold initParams at h
  split at h
  · rename_i a b
    obtain ⟨h1, h2⟩ := an h
    exact ⟨a, b, rfl, of_decide_eq_true h1, of_decide_eq_true h2⟩
  · cases h
theorem cellB_ok {K : PySem.W.Frag} {cc D : Addr} (h : cellB K cc D = true) : ∃ a b c, K.lookup cc = some ⟨a, b, .cell (some (.ref D)), c⟩ := by
  unfold cellB at h
  split at h
  · rename_i a b D' c e
    obtain rfl := of_decide_eq_true h
    exact ⟨a, b, c, e⟩
  · cases h
theorem fileB_ok {P : Program} {K : PySem.W.Frag} {cda : Addr} (h : fileB P K cda = true) : ∃ a b c vs file tf, K.lookup cda = some ⟨a, b, .fields vs, c⟩ ∧ (vs : Array Value)[2]? = some (.str file tf) ∧ ((P.main.file : Str) == file) = true := by
  unfold fileB at h
  split at h
  · rename_i a b vs c e
    split at h
    · rename_i file tf e2
      exact ⟨a, b, c, vs, file, tf, e, by rw [← Array.getElem?_toList]; exact e2, h⟩
    · cases h
  · cases h
section
variable {P : Program} {w : World} {K : PySem.W.Frag} {mg mb : Str → Option Value}
theorem ord_init {A : Around} {fI D C e t0 : Addr} {u : Value} {s : Shared} {h0 : Heap} {R : Result → Shared → Prop} (I : OrdI P K fI D) (T : OrdC K fI D C) (X : K.In h0) (hlim : h0.NoLimit) (hroom : A.depth < recursionLimit)
    (hg : h0.Ns mainGlobals mg) (hb : h0.Ns builtinsNs mb) (hmb : mb "super" = bootBuiltins "super") (k0 : ∀ b o, h0.get? b = some o → s.heap.get? b = some o) (ne : h0.get? e = none) (he : s.heap.get? e = some (HandSPX.excO C t0))
    (hq : ∀ h' tk' dx t1, (∀ b o, b ≠ e → s.heap.get? b = some o → h'.get? b = some o) → s.heap.objs.size ≤ dx → h'.get? e = some ({ cls := .ref C, dict := some dx, data := .fields #[.ref t1, .none, .none, .none, .bool false, .none] } : Obj) →
      h'.Ns1 dx (fun y => if y = "value" then some u else none) → R (.ok (.ret .none)) { s with heap := h', toks := tk' }) :
    codeAny (model P w) A (.call (.ref fI) ⟨[.ref e, u], []⟩) R s := by
  obtain ⟨oc, od, osl, nm, qual, params, body, scope, kV, doc, pm, ann, ct, cc, cda, lk, hcd, hbody, hpar, hsc, hce, hfi⟩ := I.fn
  obtain ⟨p0, p1, p2, p3, p4, p5, p6, p7, p8, p9, hln, rfl⟩ := initBody_ok hbody
  obtain ⟨a, b, rfl, ha, hb'⟩ := initParams_ok hpar
  obtain ⟨c1, c2, c3, hcell⟩ := cellB_ok hce
  obtain ⟨f1, f2, f3, vs, file, tf, hcode, hvs, hfile⟩ := fileB_ok hfi
  unfold initScope at hsc
  obtain ⟨hsc, s8⟩ := an hsc
  obtain ⟨hsc, s7⟩ := an hsc
  obtain ⟨hsc, s6⟩ := an hsc
  obtain ⟨hsc, s5⟩ := an hsc
  obtain ⟨hsc, s4⟩ := an hsc
  obtain ⟨hsc, s3⟩ := an hsc
  obtain ⟨s1, s2⟩ := an hsc
  have hk : scope.kind = .function := fnK_ok s1
  have kself := lclB_ok s7
  have kval := lclB_ok s8
  have ksup := glB_ok s5
  have kcls : scope.names.lookup ("__class__" : Str) = some .free := of_decide_eq_true s6
  have Xs : K.In s.heap := X.keeps k0
  obtain ⟨cdD, hD⟩ := Option.isSome_iff_exists.mp I.cls
  refine PySem.ks_codeAny_call_defAt (fd := PySem.W.ksFn nm qual ⟨[], [a, b], none, [], [], none, []⟩ _ scope .none kV doc pm ann (.ref cda) ct cc) (binds := [("self", .ref e), ("value", u)]) hroom (Xs _ _ lk) rfl (hlim.keeps k0) (PySem.W.codeRec_of Xs hcd) rfl ?_ ?_ ?_ ?_ (ng s2) (ng s3) hk
  · obtain ⟨an, aa, ap⟩ := a
    obtain ⟨bn, ba, bp⟩ := b
    dsimp only at ha hb'
    subst ha hb'
    exact .of_eq rfl
  · exact fun x hx => of_decide_eq_true (List.all_eq_true.mp s4 x hx)
  · intro x hx
    rcases List.mem_cons.mp hx with rfl | hx
    · exact kself
    · rcases List.mem_cons.mp hx with rfl | hx
      · exact kval
      · cases hx
  intro h1 hns k1
  have env : Env := PySem.W.ksEnv qual scope s.heap.objs.size fI (.ref cda) cc
  have k01 : ∀ b o, h0.get? b = some o → h1.get? b = some o := fun b o z => k1 b o (k0 b o z)
  have X1 : K.In h1 := X.keeps k01
  obtain ⟨oD, hD1, hD2⟩ : ∃ oD, h1.get? D = some oD ∧ oD.data = .cls cdD := by
    unfold PySem.W.clsIn at hD
    split at hD
    · rename_i c d cd' sl ho
      cases hD
      exact ⟨_, X1 _ _ ho, rfl⟩
    · cases hD
  have he1 := k1 _ _ he
  have hsz : e ≠ s.heap.objs.size := Nat.ne_of_lt (Heap.lt_size he)
  obtain ⟨hp, g, d, t, os⟩ := s
  have vself : (fun x => List.lookup x (List.reverse [(("self" : Str), Value.ref e), (("value" : Str), u)])) ("self" : Str) = some (.ref e) := rfl
  have vval : (fun x => List.lookup x (List.reverse [(("self" : Str), Value.ref e), (("value" : Str), u)])) ("value" : Str) = some u := rfl
  refine PySem.ks_wpAt_execs_cons (PySem.ks_wpAt_Expr_any (PySem.ks_wpAt_MethodCall ?_ (eval_meth hln rfl (show 1 < 30 by decide))) (by show interactive (PySem.W.ksEnv qual scope hp.objs.size fI (.ref cda) cc) = false; unfold interactive; rw [hk]; rfl) rfl)
  refine PySem.ks_wpAt_super_base (env := PySem.W.ksEnv qual scope hp.objs.size fI (.ref cda) cc) ksup kcls (by decide) rfl (X1 _ _ lk) rfl (ar := a) rfl rfl (X1 _ _ hcode) rfl hvs hfile I.top ?_
  refine PySem.W.ks_loadName_global hk ksup (Calls.loadGlobal_builtin (env := PySem.W.ksEnv qual scope hp.objs.size fI (.ref cda) cc) (hg.keeps k01) (PySem.W.mg_none_of X hg I.sup) (hb.keeps k01) (hmb.trans PyProof.Rows.Boot.«super») ⟨rfl, ?_⟩)
  refine wpAny_loadName_free hk kcls rfl ⟨_, X1 _ _ hcell, rfl⟩ ?_
  rw [ha]
  refine wpAny_loadName_local hk kself hns vself ?_
  refine PySem.ks_wpAny_isType_cls hD1 hD2 ⟨rfl, ?_⟩
  refine PySem.ks_wpAny_call_super hD1 hD2 he1 rfl (fun c z => nomatch z) (PySem.W.looks_mroIn X1 T.mro) (fun h2 e2 k2 => ?_)
  have X2 : K.In h2 := X1.keeps k2
  have he2 := k2 _ _ he1
  obtain ⟨cdC, hcd1, hcd2, hcd3⟩ := T.cd
  have hsup := T.sup
  unfold PySem.W.ks_superIn at hsup
  rw [hcd1, Option.bind_some] at hsup
  have In2 : PySem.W.InstAt h2 e (HandSPX.excO C t0) C none := ⟨he2, rfl, rfl, trivial⟩
  refine PySem.W.kxs_getMethod PySem.W.kxs_ValueError e2 (PySem.W.looks_opaque X2 I.op) (l₀ := cdC.mro) (fun A Q E s k q => wpAny_bind ((PySem.W.looks_clsIn X2 hcd1) A _ E s k (wpAny_pure q))) rfl X2 hsup (In2.type.andThen (PySem.W.looks_subIn X2 T.ve)) (PySem.W.ks_ne X2 In2 hcd1) (by decide) ?_
  have k3 : ∀ b o, h2.get? b = some o → (h2.push (PySem.W.kxs_mw "ValueError.__init__" e)).get? b = some o := fun b o z => Heap.get?_push_of_some _ z
  have hu3 : (h2.push (PySem.W.kxs_mw "ValueError.__init__" e)).get? h2.objs.size = some (PySem.W.kxs_mw "ValueError.__init__" e) := Heap.get?_push_at rfl rfl
  generalize hh3 : h2.push (PySem.W.kxs_mw "ValueError.__init__" e) = h3 at k3 hu3 ⊢
  have he3 := k3 _ _ he2
  have X3 : K.In h3 := X2.keeps k3
  obtain ⟨oL, es, ep, hL, rL⟩ := hns
  have hL3 := k3 _ _ (k2 _ _ hL)
  refine PySem.W.kxs_callWith (i := "ValueError.__init__") (x := e) rfl (Calls.evalArgs_plain (Calls.spliced_cons (wpAny_Name (wpAny_loadName_local hk kval ⟨oL, es, ep, hL3, rL⟩ vval (Calls.spliced_nil ⟨hu3, ?_⟩)) (by decide))))
  show wpAny _ _ (call (.ref h2.objs.size) [u]) _ _ _
  obtain ⟨cnm, N', qn, bs, bm, hdct, sn, sub, ab, col, dd, q0, q1, q2, q3, q5, hC, hT⟩ := PySem.W.excInit_of X3 T.ini
  refine wpAny_call (codeAny_of_tree ?_)
  show wpAny _ _ (callAny (.ref h2.objs.size) ⟨[u], []⟩) _ _ _
  simp only [callAny]
  refine wpAny_bind (wpAny_load hu3 ?_)
  simp only [PySem.W.kxs_mw, show (Value.type "method-wrapper" == Value.type "method" || Value.type "method-wrapper" == Value.type "builtin_function_or_method" || Value.type "method-wrapper" == Value.type "method-wrapper") = true by decide, if_true]
  refine PySem.W.KFB.if_so (by decide) ?_
  refine wpAny_bind (PySem.W.check_bound_init PySem.F.excBase_ValueError.toExcCallFacts hC he3 rfl ?_)
  refine wpAny_bind (wpAny_pure (wpAny_pure ?_))
  refine ⟨plainId_quiet PySem.F.excBase_ValueError.init.plain _, codeAny_builtin PySem.F.excBase_ValueError.initEntry ?_⟩
  refine PySem.W.exc_init_tree (cls := .ref C) (t0 := t0) (dv := none) (c2 := .none) (c3 := .none) (b4 := .bool false) he3 (by show 1 ≤ sizeLine; rw [sizeLine_eq]; omega) fun h4 k4 he4 ht4 => ?_
  have k04 : ∀ b o, h0.get? b = some o → h4.get? b = some o := fun b o z => k4 b o (fun y => by rw [y, ne] at z; cases z) (k3 _ _ (k2 _ _ (k01 _ _ z)))
  have X4 : K.In h4 := X.keeps k04
  have hL4 := k4 _ _ (fun z => hsz z.symm) hL3
  refine PySem.ks_wpAt_execs_cons (PySem.ks_wpAt_Assign_Attr (wpAt_of_wpAny (wpAny_Name (wpAny_loadName_local hk kval ⟨oL, es, ep, hL4, rL⟩ vval (wpAny_Name (wpAny_loadName_local hk kself ⟨oL, es, ep, hL4, rL⟩ vself ?_) (by decide))) (by decide))))
  refine PySem.W.set_plain X4 (ox := PySem.W.excRec (.ref C) h3.objs.size none .none .none (.bool false)) (od := none) ⟨he4, rfl, rfl, trivial⟩ T.sa ?_
  refine HandSPX.exc_osa X4 he4 hcd1 hcd2 hcd3 T.nov (fun h5 tk5 dx k5 dn dne hx hn => ?_)
  refine wpAt_of_wpAny (wpAny_execs_nil (hq h5 tk5 dx h3.objs.size (fun b o hb z => k5 b o hb (k4 b o hb (k3 _ _ (k2 _ _ (k1 _ _ z))))) ?_ hx hn))
  exact Nat.le_of_lt (Nat.lt_of_lt_of_le (Heap.lt_size hL4) dn)
theorem ord_call {A : Around} {fI D C : Addr} {u : Value} {s : Shared} {Q : Value → Shared → Prop} {E : Value → Shared → Prop} (I : OrdI P K fI D) (T : OrdC K fI D C) (X : K.In s.heap) (hlim : s.heap.NoLimit) (hroom : (A.under (.builtin "type.__call__" ⟨[.ref C, u], []⟩)).depth < recursionLimit)
    (hg : s.heap.Ns mainGlobals mg) (hb : s.heap.Ns builtinsNs mb) (hmb : mb "super" = bootBuiltins "super")
    (hq : ∀ h' tk' e dx t1, (∀ b o, s.heap.get? b = some o → h'.get? b = some o) → s.heap.objs.size ≤ e → s.heap.objs.size ≤ dx → dx ≠ e → h'.get? e = some ({ cls := .ref C, dict := some dx, data := .fields #[.ref t1, .none, .none, .none, .bool false, .none] } : Obj) →
      h'.Ns1 dx (fun y => if y = "value" then some u else none) → Q (.ref e) { s with heap := h', toks := tk' }) :
    wpAny (model P w) A (call (.ref C) [u]) Q E s := by
  obtain ⟨hp, g, d, t, os⟩ := s
  obtain ⟨cnm, N', qn, bs, bm, hdct, sn, sub, ab, col, dd, q0, q1, q2, q3, q5, hC, hT⟩ := PySem.W.excInit_of X T.ini
  have kk : ∀ b o, hp.get? b = some o → ((hp.push (PySem.W.kdv_tup [u])).push (HandSPX.excO C hp.objs.size)).get? b = some o := fun b o e => Heap.get?_push_of_some _ (Heap.get?_push_of_some _ e)
  have hget : ((hp.push (PySem.W.kdv_tup [u])).push (HandSPX.excO C hp.objs.size)).get? (hp.objs.size + 1) = some (HandSPX.excO C hp.objs.size) := by heap_get
  have ne : hp.get? (hp.objs.size + 1) = none := by
    cases z : hp.get? (hp.objs.size + 1) with
    | none => rfl
    | some o => exact absurd (Heap.lt_size z) (Nat.not_lt.mpr (Nat.le_succ _))
  have nl : ∀ b o, hp.get? b = some o → b ≠ hp.objs.size + 1 := fun b o z y => by rw [y, ne] at z; cases z
  refine wpAny_call (HandSPX.call_own PySem.F.excBase_ValueError hT hC (PySem.W.looks_findIn X T.fn) (fun self => PySem.W.bind_fn X self I.ty) (by show 1 ≤ sizeLine; rw [sizeLine_eq]; omega) ?_)
  refine ord_init I T X hlim hroom hg hb hmb kk ne hget fun h' tk' dx t1 k' hdx he' hn => ⟨rfl, ?_⟩
  have hs2 : ((hp.push (PySem.W.kdv_tup [u])).push (HandSPX.excO C hp.objs.size)).objs.size ≤ dx := hdx
  have hlt := Heap.lt_size hget
  exact hq h' tk' (hp.objs.size + 1) dx t1 (fun b o z => k' b o (nl b o z) (kk b o z)) (Nat.le_succ _) (Nat.le_trans (Nat.le_of_lt (Nat.lt_trans (Nat.lt_succ_self _) hlt)) hs2) (Nat.ne_of_lt (Nat.lt_of_lt_of_le hlt hs2)).symm he' hn
end
end DL
end
section
/-! E3: errors held, their value; t[::-1]; s.upper(). -/
namespace DL
open PySem PySem.Spec PyProof.Rows L2

/-! ### t[::-1] -/
theorem rev_pick (xs : Array Value) : ((List.range xs.size).filterMap fun (k : Nat) => xs[(((xs.size : Nat) : Int) - 1 + (k : Int) * (-1)).toNat]?).toArray = xs.toList.reverse.toArray := by
  have e : ((List.range xs.size).filterMap fun (k : Nat) => xs[(((xs.size : Nat) : Int) - 1 + (k : Int) * (-1)).toNat]?) = ((List.range xs.size).map fun k => xs.size - 1 - k).filterMap (xs[·]?) := by
    have gen : ∀ l : List Nat, (∀ k ∈ l, k < xs.size) → (l.filterMap fun (k : Nat) => xs[(((xs.size : Nat) : Int) - 1 + (k : Int) * (-1)).toNat]?) = (l.map fun k => xs.size - 1 - k).filterMap (xs[·]?) := by
      intro l
      induction l with
      | nil => intro _; rfl
      | cons k l ih =>
        intro hk
        have h1 := hk k (List.mem_cons_self ..)
        have h2 : (((xs.size : Nat) : Int) - 1 + (k : Int) * (-1)).toNat = xs.size - 1 - k := by omega
        rw [List.filterMap_cons, List.map_cons, List.filterMap_cons, h2, ih fun k z => hk k (List.mem_cons_of_mem _ z)]
    exact gen _ fun k hk => List.mem_range.mp hk
  rw [e, PySem.W.krv_range, List.filterMap_reverse, PySem.W.krv_all]
section
variable {prog : Program} {w : World} {A : Around} {E : Value → Shared → Prop} {s : Shared}
theorem sliceApplied_rev {sl : Addr} {vs : Value} {n : Nat} {Q : Int × Int × Nat → Shared → Prop} (hs : s.heap.IsSliceOf sl .none .none vs) (ps : IsPart vs (some (-1))) (h : Q (((n : Int) - 1), -1, n) s) : wpAny (model prog w) A (Builtin.Slice.sliceApplied (.ref sl) (pure (n : Int))) Q E s := by
  obtain ⟨os, hos, hcs, hds⟩ := id hs
  unfold Builtin.Slice.sliceApplied Builtin.Slice.sliceFields
  refine wpAny_bind (wpAny_bind (wpAny_field hos hds (x := .none) rfl (wpAny_bind (wpAny_field hos hds (x := .none) rfl (wpAny_bind (wpAny_field hos hds (x := vs) rfl (wpAny_pure ?_)))))))
  refine wpAny_bind (HT.slicePart_ ps ?_)
  show wpAny _ _ (if ((-1 : Int) == 0) = true then _ else _) _ _ s
  rw [if_neg (by decide)]
  refine wpAny_bind (slicePart_none (wpAny_bind (slicePart_none (wpAny_bind (wpAny_pure ?_)))))
  show wpAny _ _ (pure ((n : Int) - 1, (-1 : Int), Builtin.Slice.slicePlaces ((n : Int) - 1) (-1) (-1))) _ _ s
  have e : Builtin.Slice.slicePlaces ((n : Int) - 1) (-1) (-1) = n := by
    unfold Builtin.Slice.slicePlaces
    rw [if_neg (by decide), show (-(-1) : Int) = 1 by decide, Int.ediv_one]
    split <;> omega
  rw [e]
  exact wpAny_pure h
theorem getItem_tuple_rev {t sl : Addr} {items : Array Value} {vs : Value} {Q : Value → Shared → Prop} (ht : IsTup s.heap t items) (hs : s.heap.IsSliceOf sl .none .none vs) (ps : IsPart vs (some (-1)))
    (h : Q (.ref s.heap.objs.size) { s with heap := s.heap.push { cls := .type "tuple", data := .seq items.toList.reverse.toArray } }) (hz : items.size ≤ sizeLine) : wpAny (model prog w) A (getItem (.ref t) (.ref sl)) Q E s := by
  obtain ⟨os, hos, hcs, hds⟩ := id hs
  have hTs : s.TypeIs (.ref sl) "slice" := ⟨os, hos, hcs⟩
  unfold getItem
  try with_reducible refine wpAny_holding ?_
  first | refine wpAny_bind (wpAny_pure ?_) | skip
  refine wpAny_bind (wpAny_sequenceKey ht.typeIs (by decide) ?_)
  refine wpAny_bind (wpAny_callSpecial?_slot (name := Str.ofString "__getitem__") ht.typeIs PyProof.Rows.slot_tuple_getitem
    (wpAny_call_entry PyProof.Rows.slot_tuple_getitem ht.typeIs entry_tuple_getitem ?_ (args_tuple_getitem _ _)))
  show wpAny _ _ (Builtin.Tuple.tupleItemsOf (.ref t) >>= _) _ _ s
  refine wpAny_bind (tupleItemsOf_ ht ?_)
  refine wpAny_bind (wpAny_typeOf hTs ?_)
  rw [if_pos (by decide)]
  refine wpAny_bind (sliceApplied_rev hs ps ?_)
  show wpAny _ _ (if (((items.size : Int) - 1) == 0 && (-1 : Int) == 1 && items.size == items.size) = true then _ else _) _ _ s
  rw [if_neg (by rw [show ((-1 : Int) == 1) = false by decide, Bool.and_false, Bool.false_and]; exact Bool.false_ne_true)]
  show wpAny _ _ (Builtin.Tuple.tupleExact ((List.range items.size).filterMap fun (k : Nat) => items[(((items.size : Nat) : Int) - 1 + (k : Int) * (-1)).toNat]?).toArray >>= _) _ _ s
  rw [rev_pick]
  unfold Builtin.Tuple.tupleExact
  obtain ⟨hp, g, d, t', os'⟩ := s
  refine wpAny_bind (wpAny_newObj_type ?_ (by show items.toList.reverse.toArray.size ≤ sizeLine; simpa using hz))
  exact wpAny_bind (wpAny_pure (wpAny_pure ⟨_, rfl, wpAny_pure h⟩))
end
section
variable {X : Cx} {e a b : Expr} {te ta : TED} {pos p : Pos}
def dRev (te : TED) : TED := fun σ G Q E => te σ G (fun x G1 => match x with
  | .tup ds => Q (.tup ds.reverse) G1
  | _ => False) E
theorem de_rev {k : Nat} {p1 p2 p3 : Pos} (he : DE X e te) : DE X (.Subscript e (.Slice none none (some (.UnaryOp .USub (.Constant (.int 1) k p1) p2)) p3) pos) (dRev te) := by
  refine ⟨fun pins s σ H σd G He E Q I r tk tx h => ?_⟩
  refine Subscript_ (thn (he.run pins s σ H σd G He E _ I r tk tx h) fun v s1 ⟨x, H1, d, G1, I1, rx, n1, k1, r1, q1⟩ => ?_)
  cases d with
  | tup ds =>
    obtain ⟨pa, xs, rfl, sx, dx⟩ := n1
    cases rx
    have hst : PO X (some (.UnaryOp .USub (.Constant (.int 1) k p1) p2)) (tPart (tUn (rU fun i => .int (-i)) (tC (.int 1)))) := po_some (pe_un un_neg pe_int)
    refine wpAny_Slice (thn (po_none.run pins s1 σ H1 (fun o H2 => o = none ∧ H2 = H1) I1 ⟨rfl, rfl⟩) fun vl s2 ⟨l, H2, I2, pl, el, e2⟩ => ?_)
    subst el e2
    refine thn (po_none.run pins s2 σ H2 (fun o H3 => o = none ∧ H3 = H2) I2 ⟨rfl, rfl⟩) fun vu s3 ⟨u, H3, I3, pu, eu, e3⟩ => ?_
    subst eu e3
    refine thn (hst.run pins s3 σ H3 (fun o H4 => o = some (-1) ∧ H4 = H3) I3 ⟨1, rfl, -1, rfl, rfl, rfl⟩) fun vs s4 ⟨o, H4, I4, ps, eo, e4⟩ => ?_
    subst eo e4
    cases pl
    cases pu
    have I5 : Inv X pins σ H4 { s4 with heap := s4.heap.push { cls := .type "slice", data := .fields #[.none, .none, vs] } } := I4.kept (t' := s4.toks) fun b ob q => Heap.get?_push_of_some _ q
    obtain ⟨its, rv, ht, hz⟩ := I5.tuple sx
    have hlen := rv.length
    show wpAny (model X.prog X.w) X.A (subscriptTail e (.Slice none none (some (.UnaryOp .USub (.Constant (.int 1) k p1) p2)) p3) (.ref pa) (.ref s4.heap.objs.size)) _ X.xe { s4 with heap := s4.heap.push { cls := .type "slice", data := .fields #[.none, .none, vs] } }
    refine tail_any (ops := [.ref pa, .ref s4.heap.objs.size]) ht.typeIs PyProof.Rows.slot_tuple_getitem.lookup ?_ (by with_unfolding_all rfl)
    refine getItem_tuple_rev ht (Heap.IsSliceOf.new _ .none .none vs) ps ?_ (by rw [List.size_toArray]; omega)
    have I6 := I5.laid (t' := s4.toks) (o := .tup xs.reverse) (h' := (s4.heap.push { cls := .type "slice", data := .fields #[.none, .none, vs] }).push { cls := .type "tuple", data := .seq its.toArray.toList.reverse.toArray }) (a := (s4.heap.push { cls := .type "slice", data := .fields #[.none, .none, vs] }).objs.size) (fun b ob q => Heap.get?_push_of_some _ q) (Nat.le_refl _) ⟨by rw [List.length_reverse]; exact hz, its.reverse, rv.reverse, IsTup.new _ _⟩
    have hn : H4 (s4.heap.push { cls := .type "slice", data := .fields #[.none, .none, vs] }).objs.size = none := I5.hok.fresh (Nat.le_refl _)
    exact ⟨.ref _, _, .tup ds.reverse, G1, I6, rfl, ⟨_, _, rfl, SqT.of upd_same, dx.reverse.keep (TK.new hn)⟩, k1.trans (TK.new hn), r1.to (TK.new hn) (r1.ob.aside hn), q1⟩
  | _ => exact (show False from q1).elim
/-! ### o.name -/
def isCall0 : Expr → Bool
  | .Call (.Name _ _) [] [] _ => true
  | _ => false
theorem attr_plain {f : Str} {env : Env} {m : Sem Value} (h : isCall0 e = false) : attributeBase e f env m = m := by
  unfold attributeBase
  split
  · cases h
  · rfl
/-! ### s.upper() -/
def dUpp (te : TED) : TED := fun σ G Q E => te σ G (fun x G1 => match x with
  | .str z => z.length ≤ 5592405 ∧ Q (.str (Txt.upper z)) G1
  | _ => False) E
theorem de_upp (he : DE X e te) (hc : isCall0 e = false) (hl : (p.endLine == pos.line) = true) : DE X (.Call (.Attribute e "upper" p) [] [] pos) (dUpp te) :=
  DE.of (pe_upper he.pe (attr_plain hc) hl) fun σ H σd G He E Q r tk tx h => ⟨σd, G, He, E, _, r, tk, tx, h, fun v H1 d G1 n1 k1 r1 q1 => by
    cases d with
    | str z => cases n1; exact ⟨⟨z, rfl⟩, z, rfl, rfl, q1.1, .str _, G1, rfl, k1, r1, q1.2⟩
    | _ => exact (show False from q1).elim⟩
/-! ### errors held -/
theorem laid2 {pins : List (Addr × Obj)} {σ : St} {H : Hp} {s : Shared} {h' : Heap} {t' : Nat} {ea dx : Addr} {o1 o2 : HO} (I : Inv X pins σ H s) (k : ∀ b u, s.heap.get? b = some u → h'.get? b = some u) (he : s.heap.objs.size ≤ ea) (hd : s.heap.objs.size ≤ dx) (ne : dx ≠ ea)
    (n1 : ObjOk X.prog X.w (upd (upd H dx o2) ea o1) h' ea o1) (n2 : ObjOk X.prog X.w (upd (upd H dx o2) ea o1) h' dx o2) : Inv X pins σ (upd (upd H dx o2) ea o1) { s with heap := h', toks := t' } := by
  have f1 : H ea = none := I.hok.fresh he
  have f2 : H dx = none := I.hok.fresh hd
  have l1 : ∀ {b : Addr} {o : Obj}, s.heap.get? b = some o → b ≠ ea := fun {b o} q => Nat.ne_of_lt (Nat.lt_of_lt_of_le (Heap.lt_size q) he)
  have l2 : ∀ {b : Addr} {o : Obj}, s.heap.get? b = some o → b ≠ dx := fun {b o} q => Nat.ne_of_lt (Nat.lt_of_lt_of_le (Heap.lt_size q) hd)
  have up : ∀ {b : Addr} {o : HO}, H b = some o → upd (upd H dx o2) ea o1 b = some o := fun {b o} q => by rw [upd_ne (ne_of_none q f1), upd_ne (ne_of_none q f2)]; exact q
  refine I.un (t' := t') ⟨fun b o q _ _ _ => k b o q, fun b o q _ _ _ => ⟨o.slots, k b o q⟩, fun b o q n _ => by rw [upd_ne (l1 q), upd_ne (l2 q)]; exact n, fun b o q _ => ⟨o, k b o q⟩, fun b xs q => up q, fun b o u q => up q, fun b ps q => ⟨#[], by rw [up q]; simp⟩⟩ fun b o q => ?_
  by_cases hb : b = ea
  · subst hb; rw [upd_same] at q; cases q; exact n1
  · rw [upd_ne hb] at q
    by_cases hb2 : b = dx
    · subst hb2; rw [upd_same] at q; cases q; exact n2
    · rw [upd_ne hb2] at q
      exact (I.hok b o q).stay (fun c v _ z => k c v z) (fun c z => up z) fun c xs z => up z
def dErr (C : Addr) (te : TED) : TED := fun σ G Q E => te σ G (fun d G1 => Q (.exc C d) G1) E
theorem de_err {x : Str} {C fI D : Addr} (J : OrdI X.prog X.K fI D) (T : OrdC X.K fI D C) (hr : Room 1 X.A) (hg : Gl X x) (hm : X.mg x = some (.ref C)) (he : DE X e te) (hs : isStar e = false) (hdb : (x == ("__debug__" : Str)) = false) : DE X (.Call (.Name x p) [e] [] pos) (dErr C te) := by
  refine ⟨fun pins s σ H σd G He E Q I r tk tx h => ?_⟩
  have hs' : starEach [e] X.env = (false, eval e X.env) :: starEach [] X.env := star_cons hs
  refine wpAny_Call_Name_kw (ld_glob I hg hm ?_ hdb)
  refine PySem.W.callWith_K (h₀ := X.base) I.ok.mod.kin T.keep ?_ hs' (by rfl)
  rw [hs']
  show wpAny _ _ (spliced ((false, eval e X.env) :: backTo pos (starEach [] X.env))) _ _ s
  refine Calls.spliced_cons (thn (he.run pins s σ H σd G He E _ I r tk tx h) fun u s1 ⟨v, H1, d, G1, I1, rv, n1, k1, r1, q1⟩ => ?_)
  refine Calls.spliced_nil ⟨I1.kIn, ?_⟩
  show wpAny _ _ (call (.ref C) [u]) _ _ _
  obtain ⟨mb, b1, b2⟩ := I1.mod.blt
  refine ord_call J T I1.kIn (I1.mod.nolimit.keeps I1.bk) (hr.make C [u] []).depth (I1.mod.glob.keeps I1.bk) (b1.keeps I1.bk) (b2 "super" (by decide)) fun h' tk' ea dx t1 k' hea hdx hne heo hn => ?_
  obtain ⟨od, hod, hlk⟩ := lookIn_ns hn
  have f1 : H1 ea = none := I1.hok.fresh hea
  have f2 : H1 dx = none := I1.hok.fresh hdx
  have I2 := laid2 (t' := tk') (o1 := .frz _ (.ext fun _ => True)) (o2 := .frz od (.ext fun _ => True)) I1 k' hea hdx hne ⟨heo, trivial, ⟨_, heo⟩, fun _ _ _ _ => trivial⟩ ⟨hod, trivial, ⟨_, hod⟩, fun _ _ _ _ => trivial⟩
  have kn : TK H1 (upd (upd H1 dx (.frz od (.ext fun _ => True))) ea (.frz { cls := .ref C, dict := some dx, data := .fields #[.ref t1, .none, .none, .none, .bool false, .none] } (.ext fun _ => True))) := (TK.new f2).trans (TK.new (by rw [upd_ne (Ne.symm hne)]; exact f1))
  refine ⟨.ref ea, _, .exc C d, G1, I2, rfl, ⟨ea, dx, _, od, u, v, rfl, ⟨upd_same, by rw [upd_ne hne]; exact upd_same, rfl, rfl, ⟨_, rfl⟩, by rw [hlk, if_pos rfl]⟩, ⟨fI, D, T⟩, rv, n1.keep kn⟩, k1.trans kn, r1.to kn ?_, q1⟩
  exact ((r1.ob.aside (u := .frz od (.ext fun _ => True)) f2).aside (by rw [upd_ne (Ne.symm hne)]; exact f1))
def dVal (te : TED) : TED := fun σ G Q E => te σ G (fun x G1 => match x with
  | .exc _ d => Q d G1
  | _ => False) E
theorem de_val (he : DE X e te) (hc : isCall0 e = false) : DE X (.Attribute e "value" pos) (dVal te) := by
  refine ⟨fun pins s σ H σd G He E Q I r tk tx h => ?_⟩
  refine attr_of (attr_plain hc) (thn (he.run pins s σ H σd G He E _ I r tk tx h) fun v s1 ⟨x, H1, d, G1, I1, rx, n1, k1, r1, q1⟩ => ?_)
  cases d with
  | exc C d =>
    obtain ⟨ea, dx, oe, od, u, y, rfl, ex, ⟨fI, D, T⟩, ry, n2⟩ := n1
    obtain rfl : v = Value.ref ea := rx
    have he1 := (show ObjOk X.prog X.w H1 s1.heap ea (.frz oe (.ext fun _ => True)) from I1.hok ea _ ex.e).1
    have hd1 := (show ObjOk X.prog X.w H1 s1.heap dx (.frz od (.ext fun _ => True)) from I1.hok dx _ ex.d).1
    obtain ⟨vs, hv⟩ := ex.data
    have J : PySem.W.InstAt s1.heap ea oe C (some od) := ⟨he1, ex.cls, by unfold PySem.W.notCls; rw [hv], by rw [ex.dict]; exact hd1⟩
    obtain ⟨cd, hcd, _, hdc⟩ := T.cd
    have hdi : PySem.W.hasDictIn X.K C = true := by unfold PySem.W.hasDictIn; rw [hcd]; exact hdc
    exact HandSPX.exc_get I1.kIn J T.ga T.gg T.be (PySem.W.findObj_own hdi T.nov rfl ex.look) (handed_of ry) ⟨y, H1, d, G1, I1.tok _, ry, n2, k1, r1, q1⟩
  | _ => exact (show False from q1).elim
end
end DL
end
section
/-! D15: the text without its places (M), its readings (sem), the look at the text (chk). -/
namespace DL
open PySem PySem.Spec PyProof.Rows L2

inductive M where
  | nil | cons (a r : M) | pr (k v r : M) | som (a : M)
  | cst (c : Const) | loc (i : Nat) (x : Str) | glo (x : Str) (d : D) | bty (x : Str) (n : String)
  | bin (op : Operator) (a b : M) | neg (a : M) | nt (a : M) | boo (op : BoolOp) (as : M) | cmp (op : CmpOp) (a b : M) | ch2 (o1 o2 : CmpOp) (a b c : M) | ife (c a b : M)
  | lis (as : M) | tpl (as : M) | dic (ps : M) | dic0 | sub (a b : M) | sli (a lo hi : M)
  | cal (x : Str) (sp : SpD) (dfl : List D) (as : M) | bca (b : BI) (as : M) | lrg (a : M)
  | lco (e : M) (c : CT) (it ifs : M) (own : List (Str × Nat))
  | iva (e : M) | irg (a : M) | ien (a : M)
  | exp (e : M) | ret (e : M) | retN | asn (t e : M) | par (i : Nat) (x : Str) (j : Nat) (y : Str) (as : M) | iff (c a b : M) | whl (c b : M) | fr (t it b : M) | pas | brk | con | nev
  | tna (i : Nat) (x : Str) | ttu (ts : M) | tsu (o i : M)
  | err (x : Str) (a : M) | gcl (x : Str) | atv (a : M) | rev (a : M) | upp (a : M)

structure Sm where
  e : TED
  t : TTD
  a : TAD
  an : TED
  orr : TED
  tan : TTD
  tor : TTD
  ps : List (TED × TED)
  o : TOD
  s : TSD
  g : TGD
  gs : TGsD
  n : Nat
  i : TID
def Sm.no : Sm := ⟨fun _ _ _ _ => False, fun _ _ _ _ => False, fun _ _ _ _ => False, fun _ _ _ _ => False, fun _ _ _ _ => False, fun _ _ _ _ => False, fun _ _ _ _ => False, [], fun _ _ _ _ => False, fun _ _ _ => False, fun _ _ _ _ _ => False, fun _ _ _ _ _ => False, 0, fun _ _ _ _ => False⟩
def Sm.ex (e : TED) : Sm := { Sm.no with e := e, t := dTru e }
def Sm.st (s : TSD) : Sm := { Sm.no with s := s }
def Sm.it (i : TID) : Sm := { Sm.no with i := i }
def Sm.tg (g : TGD) : Sm := { Sm.no with g := g }
def isNil : M → Bool
  | .nil => true
  | _ => false
def cD : Const → Option D
  | .none => some .non
  | .bool b => some (.bl b)
  | .int i => some (.int i)
  | .str x => some (.str x)
  | _ => none
def cR (c : Const) : TED := match cD c with
  | some d => dCst d
  | none => fun _ _ _ _ => False
def sem (K : PySem.W.Frag) : M → Sm
  | .nil => { Sm.no with a := dNil, ps := [], o := dNoPart, s := sNext, gs := gdNil, t := dYes }
  | .cons a r => { Sm.no with a := (dCons (sem K a).e (sem K r).a), s := (sSeq (sem K a).s (sem K r).s), gs := (gdCons (sem K a).g (sem K r).gs), n := ((sem K r).n + 1), t := ((sem K a).t), an := (if isNil r then (sem K a).e else dAndV (sem K a).e (sem K r).an), orr := (if isNil r then (sem K a).e else dOrV (sem K a).e (sem K r).orr), tan := (if isNil r then (sem K a).t else dAndT (sem K a).t (sem K r).tan), tor := (if isNil r then (sem K a).t else dOrT (sem K a).t (sem K r).tor) }
  | .pr k v r => { Sm.no with ps := ((sem K k).e, (sem K v).e) :: (sem K r).ps }
  | .som a => { Sm.no with o := dPart (sem K a).e }
  | .cst c => .ex (cR c)
  | .loc i _ => .ex (dVar i)
  | .glo _ d => .ex (dCst d)
  | .bty _ n => .ex (dCst (.ty n))
  | .bin op a b => .ex (dOp2 (bin op) (sem K a).e (sem K b).e)
  | .neg a => .ex (dUn negD (sem K a).e)
  | .nt a => { Sm.no with e := dNotV (sem K a).e, t := dNotT (sem K a).t }
  | .boo op as => (match op with
    | .And => { Sm.no with e := (sem K as).an, t := (sem K as).tan }
    | .Or => { Sm.no with e := (sem K as).orr, t := (sem K as).tor })
  | .cmp op a b => { Sm.no with e := dOp2 (DL.cmp op) (sem K a).e (sem K b).e, t := fun σ G Q E => (sem K a).e σ G (fun x G1 => (sem K b).e σ G1 (fun y G2 => cmpR op x y G2 fun k => Q k G2) E) E }
  | .ch2 o1 o2 a b c => { Sm.no with e := dChain o1 o2 (sem K a).e (sem K b).e (sem K c).e, t := dChainT o1 o2 (sem K a).e (sem K b).e (sem K c).e }
  | .ife c a b => { Sm.no with e := dIfE (sem K c).t (sem K a).e (sem K b).e, t := dIfT (sem K c).t (sem K a).t (sem K b).t }
  | .lis as => .ex (dLst (sem K as).a)
  | .tpl as => .ex (dTup (sem K as).a)
  | .dic ps => .ex (dDic (sem K ps).ps)
  | .dic0 => .ex dDic0
  | .sub a b => .ex (dOp2 subD (sem K a).e (sem K b).e)
  | .sli a lo hi => .ex (dSli (sem K a).e (sem K lo).o (sem K hi).o)
  | .cal _ sp dfl as => .ex (dCall sp dfl (sem K as).a)
  | .bca b as => .ex (dBca K b (sem K as).a)
  | .lrg a => .ex (dLrg (dCons (sem K a).e dNil))
  | .lco e c it ifs own => .ex (dLc (sem K it).i c (sem K ifs).t (sem K e).e (own.map (·.2)))
  | .iva e => .it (iVal (sem K e).e)
  | .irg a => .it (iRange1 (dCons (sem K a).e dNil))
  | .ien a => .it (iEnum1 (dCons (sem K a).e dNil))
  | .exp e => .st (sDrop (sem K e).e)
  | .ret e => .st (sRet (sem K e).e)
  | .retN => .st sRetN
  | .asn t e => .st (sAsg (sem K e).e (sem K t).g)
  | .par i _ j _ as => .st (sPar i j (sem K as).a)
  | .iff c a b => .st (sIf (sem K c).t (sem K a).s (sem K b).s)
  | .whl c b => .st (sWhile (sem K c).t (sem K b).s)
  | .fr t it b => .st (sFor (sem K it).i (sem K t).g (sem K b).s)
  | .pas => .st sNext
  | .brk => .st sBreak
  | .con => .st sCont
  | .nev => .st sNever
  | .tna i _ => .tg (gdName i)
  | .ttu ts => .tg (gdTup (sem K ts).n (sem K ts).gs)
  | .tsu o i => .tg (gdSub (sem K o).e (sem K i).e)
  | .err x a => .ex (dErr (He.ga K x) (sem K a).e)
  | .gcl x => .ex (dCst (.ref (He.ga K x)))
  | .atv a => .ex (dVal (sem K a).e)
  | .rev a => .ex (dRev (sem K a).e)
  | .upp a => .ex (dUpp (sem K a).e)

/-! ### the look -/
inductive Nd where
  | e (x : Expr) | es (xs : List Expr) | o (x : Option Expr) | s (x : Stmt) | ss (xs : List Stmt) | g (x : Expr) | gs (xs : List Expr) | i (tg x : Expr) | ts (xs : List Expr) | ps (ks : List (Option Expr)) (vs : List Expr)
def ctChk (N : List Str) (sc : Scope) : CT → Expr → Bool
  | .one i, .Name x _ => decide (N[i]? = some x) && lclB sc x
  | .tup is, .Tuple es _ _ => go is es
  | _, _ => false
where go : List Nat → List Expr → Bool
  | [], [] => true
  | i :: is, .Name x _ :: es => decide (N[i]? = some x) && lclB sc x && go is es
  | _, _ => false
/-- name = [comprehension]: stored within it -/
def swB (sc : Scope) : Expr → Expr → Bool
  | .Name t p, .ListComp _ _ scope pos => fnK sc && lclB sc t && (p.line == pos.line) && !(scope.names.any fun (n, k) => n == t && (k == .local || k == .cell))
  | _, _ => false
def isName : Expr → Bool
  | .Name .. => true
  | _ => false
def chk : M → List Str → Scope → Nd → Bool
  | .nil, _, _, nd => (match nd with
    | .es [] => true
    | .ss [] => true
    | .gs [] => true
    | .ts [] => true
    | .o none => true
    | .ps [] [] => true
    | _ => false)
  | .cons a r, N, sc, nd => (match nd with
    | .es (x :: xs) => !isStar x && chk a N sc (.e x) && chk r N sc (.es xs)
    | .ss (x :: xs) => chk a N sc (.s x) && chk r N sc (.ss xs)
    | .gs (x :: xs) => !isStar x && chk a N sc (.g x) && chk r N sc (.gs xs)
    | .ts [x] => chk a N sc (.e x) && isNil r
    | _ => false)
  | .pr k v r, N, sc, nd => (match nd with
    | .ps (some kx :: ks) (vx :: vs) => chk k N sc (.e kx) && chk v N sc (.e vx) && chk r N sc (.ps ks vs)
    | _ => false)
  | .som a, N, sc, nd => (match nd with
    | .o (some x) => chk a N sc (.e x)
    | _ => false)
  | .cst c, _, _, nd => (match nd with
    | .e (.Constant c' _ _) => decide (c = c')
    | _ => false)
  | .loc i x, N, sc, nd => (match nd with
    | .e (.Name y _) => decide (x = y) && decide (N[i]? = some x) && visB sc x && okN x
    | _ => false)
  | .glo x _, _, sc, nd => (match nd with
    | .e (.Name y _) => decide (x = y) && glB sc x && okN x
    | _ => false)
  | .bty x n, _, sc, nd => (match nd with
    | .e (.Name y _) => decide (x = y) && glB sc x && okN x && decide (bootBuiltins x = some (.type n))
    | _ => false)
  | .bin op a b, N, sc, nd => (match nd with
    | .e (.BinOp x op' y _) => decide (op = op') && chk a N sc (.e x) && chk b N sc (.e y)
    | _ => false)
  | .neg a, N, sc, nd => (match nd with
    | .e (.UnaryOp .USub x _) => chk a N sc (.e x)
    | _ => false)
  | .nt a, N, sc, nd => (match nd with
    | .e (.UnaryOp .Not x _) => chk a N sc (.e x)
    | _ => false)
  | .boo op as, N, sc, nd => (match nd with
    | .e (.BoolOp op' xs _) => decide (op = op') && chk as N sc (.es xs) && !xs.isEmpty
    | _ => false)
  | .cmp op a b, N, sc, nd => (match nd with
    | .e (.Compare x [op'] [y] _) => decide (op = op') && chk a N sc (.e x) && chk b N sc (.e y) && !isSet y
    | _ => false)
  | .ch2 o1 o2 a b c, N, sc, nd => (match nd with
    | .e (.Compare x [p1, p2] [y, z] _) => decide (o1 = p1) && decide (o2 = p2) && chk a N sc (.e x) && chk b N sc (.e y) && chk c N sc (.e z) && !isSet z
    | _ => false)
  | .ife c a b, N, sc, nd => (match nd with
    | .e (.IfExp z x y _) => chk c N sc (.e z) && chk a N sc (.e x) && chk b N sc (.e y)
    | _ => false)
  | .lis as, N, sc, nd => (match nd with
    | .e (.List xs _) => chk as N sc (.es xs)
    | _ => false)
  | .tpl as, N, sc, nd => (match nd with
    | .e (.Tuple xs _ _) => chk as N sc (.es xs)
    | _ => false)
  | .dic ps, N, sc, nd => (match nd with
    | .e (.Dict ks vs _) => chk ps N sc (.ps ks vs) && ks.all (·.isSome) && decide (ks.length = vs.length) && !ks.isEmpty && decide (ks.length ≤ 15)
    | _ => false)
  | .dic0, _, _, nd => (match nd with
    | .e (.Dict [] [] _) => true
    | _ => false)
  | .sub a b, N, sc, nd => (match nd with
    | .e (.Subscript x y _) => chk a N sc (.e x) && chk b N sc (.e y) && !isSlice y
    | _ => false)
  | .sli a lo hi, N, sc, nd => (match nd with
    | .e (.Subscript x (.Slice l u none _) _) => chk a N sc (.e x) && chk lo N sc (.o l) && chk hi N sc (.o u)
    | _ => false)
  | .cal x _ _ as, N, sc, nd => (match nd with
    | .e (.Call (.Name y _) xs [] _) => decide (x = y) && glB sc x && okN x && chk as N sc (.es xs)
    | _ => false)
  | .bca b as, N, sc, nd => (match nd with
    | .e (.Call (.Name y _) (x :: xs) [] _) => decide (b.name = y) && glB sc y && chk as N sc (.es (x :: xs))
    | _ => false)
  | .lrg a, N, sc, nd => (match nd with
    | .e (.Call (.Name y _) [.Call (.Name z _) [x] [] _] [] _) => decide (y = "list") && glB sc y && decide (z = "range") && glB sc z && !isStar x && chk a N sc (.e x)
    | _ => false)
  | .lco e c it ifs own, N, sc, nd => (match nd with
    | .e (.ListComp elt [⟨tg, iter, is, asy⟩] scope _) => decide (asy = 0) && chk it N sc (.i tg iter) && blkC N sc scope own && ctIn (own.map (·.2)) c && ctChk N (relS scope sc) c tg && chk ifs N (relS scope sc) (.ts is) && chk e N (relS scope sc) (.e elt) && !isSet iter
    | _ => false)
  | .iva e, N, sc, nd => (match nd with
    | .i _ x => chk e N sc (.e x)
    | _ => false)
  | .irg a, N, sc, nd => (match nd with
    | .i _ (.Call (.Name y _) [x] [] _) => decide (y = "range") && glB sc y && !isStar x && chk a N sc (.e x)
    | _ => false)
  | .ien a, N, sc, nd => (match nd with
    | .i (.Tuple _ _ _) (.Call (.Name y _) [x] [] _) => decide (y = "enumerate") && glB sc y && !isStar x && chk a N sc (.e x)
    | _ => false)
  | .exp e, N, sc, nd => (match nd with
    | .s (.Expr x _) => chk e N sc (.e x) && !isComp x
    | _ => false)
  | .ret e, N, sc, nd => (match nd with
    | .s (.Return (some x) _) => chk e N sc (.e x)
    | _ => false)
  | .retN, _, _, nd => (match nd with
    | .s (.Return none _) => true
    | _ => false)
  | .asn t e, N, sc, nd => (match nd with
    | .s (.Assign [tg] x _) => chk t N sc (.g tg) && chk e N sc (.e x) && !isStar tg && (!isComp x || swB sc tg x || !isName tg) && (!isTup tg || !isTup x)
    | _ => false)
  | .par i x j y as, N, sc, nd => (match nd with
    | .s (.Assign [.Tuple [.Name x' px, .Name y' py] _ _] (.Tuple [a, b] _ _) _) => decide (x = x') && decide (y = y') && decide (N[i]? = some x) && decide (N[j]? = some y) && decide (i ≠ j) && lclB sc x && lclB sc y && fnK sc && chk as N sc (.es [a, b]) &&
      (px.line == py.line) && decide (x ≠ y) && !([a, b].all (foldedForSure 8)) && !([a, b].all (constantsAlone 8))
    | _ => false)
  | .iff c a b, N, sc, nd => (match nd with
    | .s (.If z x y _) => chk c N sc (.e z) && chk a N sc (.ss x) && chk b N sc (.ss y)
    | _ => false)
  | .whl c b, N, sc, nd => (match nd with
    | .s (.While z x [] _) => chk c N sc (.e z) && chk b N sc (.ss x)
    | _ => false)
  | .fr t it b, N, sc, nd => (match nd with
    | .s (.For tg iter x [] _) => chk t N sc (.g tg) && chk it N sc (.i tg iter) && chk b N sc (.ss x) && !isSet iter
    | _ => false)
  | .pas, _, _, nd => (match nd with
    | .s (.Pass _) => true
    | _ => false)
  | .brk, _, _, nd => (match nd with
    | .s (.Break _) => true
    | _ => false)
  | .con, _, _, nd => (match nd with
    | .s (.Continue _) => true
    | _ => false)
  | .nev, _, _, nd => (match nd with
    | .s _ => true
    | _ => false)
  | .tna i x, N, sc, nd => (match nd with
    | .g (.Name y _) => decide (x = y) && decide (N[i]? = some x) && locB sc x
    | _ => false)
  | .ttu ts, N, sc, nd => (match nd with
    | .g (.Tuple xs _ _) => chk ts N sc (.gs xs)
    | _ => false)
  | .tsu o i, N, sc, nd => (match nd with
    | .g (.Subscript x y _) => chk o N sc (.e x) && chk i N sc (.e y) && !isSlice y
    | _ => false)
  | .err x a, N, sc, nd => (match nd with
    | .e (.Call (.Name y _) [z] [] _) => decide (x = y) && glB sc x && okN x && !isStar z && chk a N sc (.e z)
    | _ => false)
  | .gcl x, _, sc, nd => (match nd with
    | .e (.Name y _) => decide (x = y) && glB sc x && okN x
    | _ => false)
  | .atv a, N, sc, nd => (match nd with
    | .e (.Attribute z n _) => decide (n = "value") && !isCall0 z && chk a N sc (.e z)
    | _ => false)
  | .rev a, N, sc, nd => (match nd with
    | .e (.Subscript z (.Slice none none (some (.UnaryOp .USub (.Constant (.int i) _ _) _)) _) _) => decide (i = 1) && chk a N sc (.e z)
    | _ => false)
  | .upp a, N, sc, nd => (match nd with
    | .e (.Call (.Attribute z n ap) [] [] pos) => decide (n = "upper") && !isCall0 z && (ap.endLine == pos.line) && chk a N sc (.e z)
    | _ => false)
/-- what is said of the names -/
def Fn (P : Program) (w : World) (K : PySem.W.Frag) (mg : Str → Option Value) (base : Heap) (k : Nat) : M → Prop
  | .cons a r => Fn P w K mg base k a ∧ Fn P w K mg base k r
  | .pr a b c => Fn P w K mg base k a ∧ Fn P w K mg base k b ∧ Fn P w K mg base k c
  | .som a => Fn P w K mg base k a
  | .glo x d => GlobD K mg x d
  | .bty x _ => mg x = none
  | .bin _ a b => Fn P w K mg base k a ∧ Fn P w K mg base k b
  | .neg a => Fn P w K mg base k a
  | .nt a => Fn P w K mg base k a
  | .boo _ a => Fn P w K mg base k a
  | .cmp _ a b => Fn P w K mg base k a ∧ Fn P w K mg base k b
  | .ch2 _ _ a b c => Fn P w K mg base k a ∧ Fn P w K mg base k b ∧ Fn P w K mg base k c
  | .ife a b c => Fn P w K mg base k a ∧ Fn P w K mg base k b ∧ Fn P w K mg base k c
  | .lis a => Fn P w K mg base k a
  | .tpl a => Fn P w K mg base k a
  | .dic a => Fn P w K mg base k a
  | .sub a b => Fn P w K mg base k a ∧ Fn P w K mg base k b
  | .sli a b c => Fn P w K mg base k a ∧ Fn P w K mg base k b ∧ Fn P w K mg base k c
  | .cal x sp dfl a => (∃ j, j ≤ k ∧ FnG P w K mg base j x sp dfl) ∧ Fn P w K mg base k a
  | .bca b a => mg b.name = none ∧ Fn P w K mg base k a
  | .lrg a => mg "list" = none ∧ mg "range" = none ∧ Fn P w K mg base k a
  | .lco e _ it ifs _ => Fn P w K mg base k e ∧ Fn P w K mg base k it ∧ Fn P w K mg base k ifs
  | .iva a => Fn P w K mg base k a
  | .irg a => mg "range" = none ∧ Fn P w K mg base k a
  | .ien a => mg "enumerate" = none ∧ Fn P w K mg base k a
  | .exp a => Fn P w K mg base k a
  | .ret a => Fn P w K mg base k a
  | .asn a b => Fn P w K mg base k a ∧ Fn P w K mg base k b
  | .par _ _ _ _ a => Fn P w K mg base k a
  | .iff a b c => Fn P w K mg base k a ∧ Fn P w K mg base k b ∧ Fn P w K mg base k c
  | .whl a b => Fn P w K mg base k a ∧ Fn P w K mg base k b
  | .fr a b c => Fn P w K mg base k a ∧ Fn P w K mg base k b ∧ Fn P w K mg base k c
  | .ttu a => Fn P w K mg base k a
  | .tsu a b => Fn P w K mg base k a ∧ Fn P w K mg base k b
  | .err x a => (mg x = some (.ref (He.ga K x)) ∧ 1 ≤ k ∧ ∃ fI D, OrdI P K fI D ∧ OrdC K fI D (He.ga K x)) ∧ Fn P w K mg base k a
  | .gcl x => mg x = some (.ref (He.ga K x))
  | .atv a => Fn P w K mg base k a
  | .rev a => Fn P w K mg base k a
  | .upp a => Fn P w K mg base k a
  | _ => True
end DL
end
section
/-! D16: a text that passes the look does what its reading says. -/
namespace DL
open PySem PySem.Spec PyProof.Rows L2

section
variable (P : Program) (w : World) (K : PySem.W.Frag) (mg : Str → Option Value) (base : Heap) (N : List Str) (k : Nat)
/-- what the readings of m mean at a piece of text -/
def Mean (m : M) (X : Cx) : Nd → Prop
  | .e x => DE X x (sem K m).e ∧ DT X x (sem K m).t
  | .es xs => DA X xs (sem K m).a ∧ (xs.all fun e => !isStar e) = true ∧ (xs = [] ↔ isNil m = true) ∧ (xs ≠ [] → ∀ pos, (DE X (.BoolOp .And xs pos) (sem K m).an ∧ DE X (.BoolOp .Or xs pos) (sem K m).orr) ∧ DW X (.BoolOp .And xs pos) (sem K m).tan ∧ DW X (.BoolOp .Or xs pos) (sem K m).tor)
  | .o x => DO X x (sem K m).o
  | .s st => Top X → DS X st (sem K m).s
  | .ss sts => Top X → DSs X sts (sem K m).s
  | .g x => Top X → DG X x (sem K m).g
  | .gs xs => Top X → DGs X xs (sem K m).gs ∧ (sem K m).n = xs.length ∧ (xs.all fun e => !isStar e) = true
  | .i tg x => DI X tg x (sem K m).i
  | .ts xs => PTs X xs (dnT0 X.K (sem K m).t)
  | .ps ks vs => ∀ pos, PPs X pos ks vs ((sem K m).ps.map fun q => (dnE X q.1, dnE X q.2))
def Snd (m : M) : Prop := ∀ (sc : Scope) (X : Cx) (nd : Nd), Here P w K mg base N sc k X → Fn P w K mg base k m → chk m N sc nd = true → Mean K m X nd
end
section
variable {P : Program} {w : World} {K : PySem.W.Frag} {mg : Str → Option Value} {base : Heap} {N : List Str} {k : Nat}
/-- an expression's readings, the test by truth -/
theorem ex_of {X : Cx} {x : Expr} {t : TED} (hp : isPlainT x = true) (h : DE X x t) : DE X x t ∧ DT X x (dTru t) := ⟨h, dt_tru h (test_plain hp)⟩
theorem Here.u64 {sc : Scope} {X : Cx} (H : Here P w K mg base N sc k X) : X.A.units + 64 < cLine := H.room.units
theorem Here.gl {sc : Scope} {X : Cx} {x : Str} (H : Here P w K mg base N sc k X) (h : glB sc x = true) : Gl X x := by
  show X.env.scope.names.lookup x = _
  rw [H.scope]; exact glB_ok h
theorem Here.mx {sc : Scope} {X : Cx} (H : Here P w K mg base N sc k X) (hsm : ∃ o, K.lookup sysModules = some o) : Mx X := ⟨H.calm, by have := H.room.un; omega, H.guards, by rw [H.frag]; exact hsm⟩
theorem Here.blk {sc : Scope} {X : Cx} (H : Here P w K mg base N sc k X) (s : Shared) (Hh : Hp) (scope : Scope) (cl : List (Str × Addr)) (C : Addr) (fp : List Addr) :
    Here P w K mg base N (relS scope sc) k (X.blk s Hh scope (compEnvC scope cl C X.env) fp) :=
  ⟨H.prog, H.wd, H.frag, H.glob, H.bs, H.names, by show relabel scope X.env = _; rw [← H.scope]; rfl, H.calm, H.room, H.guards⟩

theorem snd_nil : Snd P w K mg base N k .nil := fun sc X nd H F h => by
  cases nd with
  | es xs =>
    cases xs with
    | nil => exact ⟨da_nil, rfl, ⟨fun _ => rfl, fun _ => rfl⟩, fun z => absurd rfl z⟩
    | cons _ _ => cases h
  | ss xs =>
    cases xs with
    | nil => exact fun _ => dss_nil
    | cons _ _ => cases h
  | gs xs =>
    cases xs with
    | nil => exact fun _ => ⟨dgs_nil, rfl, rfl⟩
    | cons _ _ => cases h
  | ts xs =>
    cases xs with
    | nil => exact pts_nil0
    | cons _ _ => cases h
  | o x =>
    cases x with
    | none => exact do_none
    | some _ => cases h
  | ps ks vs =>
    cases ks with
    | nil =>
      cases vs with
      | nil => exact fun _ => pps_nil
      | cons _ _ => cases h
    | cons _ _ => cases h
  | _ => cases h
theorem snd_cons {a r : M} (ia : Snd P w K mg base N k a) (ir : Snd P w K mg base N k r) : Snd P w K mg base N k (.cons a r) := fun sc X nd H F h => by
  cases nd with
  | es xs =>
    cases xs with
    | nil => cases h
    | cons x xs =>
      have h : (!isStar x && chk a N sc (.e x) && chk r N sc (.es xs)) = true := h
      obtain ⟨h, h3⟩ := an h
      obtain ⟨h1, h2⟩ := an h
      obtain ⟨e1, e2⟩ := ia sc X _ H F.1 h2
      obtain ⟨r1, r2, r3, r4⟩ := ir sc X _ H F.2 h3
      refine ⟨da_cons e1 r1 (star_cons (ng h1)), by rw [List.all_cons, h1, r2]; rfl, ⟨fun z => (nomatch z), fun z => (nomatch z)⟩, fun _ pos => ?_⟩
      show (DE X _ (if isNil r then (sem K a).e else dAndV (sem K a).e (sem K r).an) ∧ DE X _ (if isNil r then (sem K a).e else dOrV (sem K a).e (sem K r).orr)) ∧ DW X _ (if isNil r then (sem K a).t else dAndT (sem K a).t (sem K r).tan) ∧ DW X _ (if isNil r then (sem K a).t else dOrT (sem K a).t (sem K r).tor)
      cases hr : isNil r with
      | true =>
        have := r3.mpr hr
        subst this
        exact ⟨⟨de_one e1, de_one e1⟩, dw_and1 e2, dw_or1 e2⟩
      | false =>
        cases xs with
        | nil => rw [r3.mp rfl] at hr; cases hr
        | cons y ys =>
          obtain ⟨⟨b1, b2⟩, b3, b4⟩ := r4 (fun z => (nomatch z)) pos
          exact ⟨⟨de_and e1 b1, de_or e1 b2⟩, dw_and e2 b3, dw_or e2 b4⟩
  | ss xs =>
    cases xs with
    | nil => cases h
    | cons x xs =>
      obtain ⟨h1, h2⟩ := an (show (chk a N sc (.s x) && chk r N sc (.ss xs)) = true from h)
      exact fun T => show DSs X (x :: xs) (sSeq (sem K a).s (sem K r).s) from dss_cons (ia sc X _ H F.1 h1 T) (ir sc X _ H F.2 h2 T)
  | gs xs =>
    cases xs with
    | nil => cases h
    | cons x xs =>
      have h : (!isStar x && chk a N sc (.g x) && chk r N sc (.gs xs)) = true := h
      obtain ⟨h, h3⟩ := an h
      obtain ⟨h1, h2⟩ := an h
      exact fun T => by
        obtain ⟨g1, g2, g3⟩ := ir sc X _ H F.2 h3 T
        exact ⟨dgs_cons (ia sc X _ H F.1 h2 T) g1 (asg_cons (ng h1)), by show (sem K r).n + 1 = _; rw [g2]; rfl, by rw [List.all_cons, h1, g3]; rfl⟩
  | ts xs =>
    cases xs with
    | nil => cases h
    | cons x xs =>
      cases xs with
      | nil =>
        obtain ⟨h1, h2⟩ := an (show (chk a N sc (.e x) && isNil r) = true from h)
        exact pts_one (ia sc X _ H F.1 h1).2.pt0
      | cons _ _ => cases h
  | _ => cases h
theorem snd_pr {a b r : M} (ia : Snd P w K mg base N k a) (ib : Snd P w K mg base N k b) (ir : Snd P w K mg base N k r) : Snd P w K mg base N k (.pr a b r) := fun sc X nd H F h => by
  cases nd with
  | ps ks vs =>
    cases ks with
    | nil => cases h
    | cons kx ks =>
      cases kx with
      | none => cases h
      | some kx =>
        cases vs with
        | nil => cases h
        | cons vx vs =>
          have h : (chk a N sc (.e kx) && chk b N sc (.e vx) && chk r N sc (.ps ks vs)) = true := h
          obtain ⟨h, h3⟩ := an h
          obtain ⟨h1, h2⟩ := an h
          exact fun pos => pps_cons (ia sc X _ H F.1 h1).1.pe (ib sc X _ H F.2.1 h2).1.pe (ir sc X _ H F.2.2 h3 pos)
  | _ => cases h
theorem snd_som {a : M} (ia : Snd P w K mg base N k a) : Snd P w K mg base N k (.som a) := fun sc X nd H F h => by
  cases nd with
  | o x =>
    cases x with
    | none => cases h
    | some x => exact do_some (ia sc X _ H F h).1
  | _ => cases h
theorem snd_cst {c : Const} : Snd P w K mg base N k (.cst c) := fun sc X nd H F h => by
  cases nd with
  | e x =>
    cases x with
    | Constant c' j pos =>
      have e := of_decide_eq_true (show decide (c = c') = true from h)
      subst e
      refine ex_of rfl ?_
      cases c with
      | none => exact de_non
      | bool b => exact de_bl
      | int i => exact de_int
      | str z => exact de_str
      | _ => exact ⟨fun pins s σ H σd G He E Q I r tk tx h => (show False from h).elim⟩
    | _ => cases h
  | _ => cases h
theorem snd_loc {i : Nat} {x : Str} : Snd P w K mg base N k (.loc i x) := fun sc X nd H F h => by
  cases nd with
  | e z =>
    cases z with
    | Name y pos =>
      have h : (decide (x = y) && decide (N[i]? = some x) && visB sc x && okN x) = true := h
      obtain ⟨h, h4⟩ := an h
      obtain ⟨h, h3⟩ := an h
      obtain ⟨h1, h2⟩ := an h
      obtain rfl := of_decide_eq_true h1
      obtain ⟨o1, o2, _⟩ := okN_ok h4
      exact ex_of rfl (de_var (by rw [H.names]; exact of_decide_eq_true h2) (by rw [H.scope]; exact visB_ok h3) o1 o2)
    | _ => cases h
  | _ => cases h
theorem snd_glo {x : Str} {d : D} : Snd P w K mg base N k (.glo x d) := fun sc X nd H F h => by
  cases nd with
  | e z =>
    cases z with
    | Name y pos =>
      have h : (decide (x = y) && glB sc x && okN x) = true := h
      obtain ⟨h, h3⟩ := an h
      obtain ⟨h1, h2⟩ := an h
      obtain rfl := of_decide_eq_true h1
      exact ex_of rfl (de_glo (H.gl h2) (by rw [H.frag, H.glob]; exact F) (okN_ok h3).1)
    | _ => cases h
  | _ => cases h
theorem snd_bty {x : Str} {n : String} : Snd P w K mg base N k (.bty x n) := fun sc X nd H F h => by
  cases nd with
  | e z =>
    cases z with
    | Name y pos =>
      have h : (decide (x = y) && glB sc x && okN x && decide (bootBuiltins x = some (.type n))) = true := h
      obtain ⟨h, h4⟩ := an h
      obtain ⟨h, h3⟩ := an h
      obtain ⟨h1, h2⟩ := an h
      obtain rfl := of_decide_eq_true h1
      exact ex_of rfl (de_blt (H.gl h2) (by rw [H.glob]; exact F) (of_decide_eq_true h4) (okN_ok h3).2.2 (okN_ok h3).1)
    | _ => cases h
  | _ => cases h
theorem snd_bin {op : Operator} {a b : M} (ia : Snd P w K mg base N k a) (ib : Snd P w K mg base N k b) : Snd P w K mg base N k (.bin op a b) := fun sc X nd H F h => by
  cases nd with
  | e z =>
    cases z with
    | BinOp x op' y pos =>
      have h : (decide (op = op') && chk a N sc (.e x) && chk b N sc (.e y)) = true := h
      obtain ⟨h, h3⟩ := an h
      obtain ⟨h1, h2⟩ := an h
      obtain rfl := of_decide_eq_true h1
      exact ex_of rfl (de_bin op (ia sc X _ H F.1 h2).1 (ib sc X _ H F.2 h3).1)
    | _ => cases h
  | _ => cases h
theorem snd_neg {a : M} (ia : Snd P w K mg base N k a) : Snd P w K mg base N k (.neg a) := fun sc X nd H F h => by
  cases nd with
  | e z =>
    cases z with
    | UnaryOp op x pos =>
      cases op with
      | USub => exact ex_of rfl (de_neg (ia sc X _ H F h).1)
      | _ => cases h
    | _ => cases h
  | _ => cases h
theorem snd_nt {a : M} (ia : Snd P w K mg base N k a) : Snd P w K mg base N k (.nt a) := fun sc X nd H F h => by
  cases nd with
  | e z =>
    cases z with
    | UnaryOp op x pos =>
      cases op with
      | Not => exact ⟨de_not (ia sc X _ H F h).1, dt_not (ia sc X _ H F h).2⟩
      | _ => cases h
    | _ => cases h
  | _ => cases h
theorem snd_boo {op : BoolOp} {a : M} (ia : Snd P w K mg base N k a) : Snd P w K mg base N k (.boo op a) := fun sc X nd H F h => by
  cases nd with
  | e z =>
    cases z with
    | BoolOp op' xs pos =>
      have h : (decide (op = op') && chk a N sc (.es xs) && !xs.isEmpty) = true := h
      obtain ⟨h, h3⟩ := an h
      obtain ⟨h1, h2⟩ := an h
      obtain rfl := of_decide_eq_true h1
      obtain ⟨⟨b1, b2⟩, b3, b4⟩ := (ia sc X _ H F h2).2.2.2 (fun z => by rw [z] at h3; cases h3) pos
      cases op with
      | And => exact ⟨b1, b3.dt⟩
      | Or => exact ⟨b2, b4.dt⟩
    | _ => cases h
  | _ => cases h
theorem snd_cmp {op : CmpOp} {a b : M} (ia : Snd P w K mg base N k a) (ib : Snd P w K mg base N k b) : Snd P w K mg base N k (.cmp op a b) := fun sc X nd H F h => by
  cases nd with
  | e z =>
    cases z with
    | Compare x ops ys pos =>
      match ops, ys, h with
      | [op'], [y], h =>
        have h : (decide (op = op') && chk a N sc (.e x) && chk b N sc (.e y) && !isSet y) = true := h
        obtain ⟨h, h4⟩ := an h
        obtain ⟨h, h3⟩ := an h
        obtain ⟨h1, h2⟩ := an h
        obtain rfl := of_decide_eq_true h1
        exact ⟨de_cmp H.u64 op (ia sc X _ H F.1 h2).1 (ib sc X _ H F.2 h3).1 (mark_no (ng h4)), dt_cmp H.u64 op (ia sc X _ H F.1 h2).1 (ib sc X _ H F.2 h3).1 (mark_no (ng h4))⟩
      | [], _, h => cases h
      | _ :: _ :: _, _, h => cases h
      | [_], [], h => cases h
      | [_], _ :: _ :: _, h => cases h
    | _ => cases h
  | _ => cases h
theorem snd_ife {c a b : M} (ic : Snd P w K mg base N k c) (ia : Snd P w K mg base N k a) (ib : Snd P w K mg base N k b) : Snd P w K mg base N k (.ife c a b) := fun sc X nd H F h => by
  cases nd with
  | e z =>
    cases z with
    | IfExp z x y pos =>
      have h : (chk c N sc (.e z) && chk a N sc (.e x) && chk b N sc (.e y)) = true := h
      obtain ⟨h, h3⟩ := an h
      obtain ⟨h1, h2⟩ := an h
      have c1 := ic sc X _ H F.1 h1
      have a1 := ia sc X _ H F.2.1 h2
      have b1 := ib sc X _ H F.2.2 h3
      exact ⟨de_ife c1.2 a1.1 b1.1, dt_ife c1.2 a1.2 b1.2⟩
    | _ => cases h
  | _ => cases h
theorem snd_lis {a : M} (ia : Snd P w K mg base N k a) : Snd P w K mg base N k (.lis a) := fun sc X nd H F h => by
  cases nd with
  | e z =>
    cases z with
    | List xs pos => exact ex_of rfl (de_lst (ia sc X _ H F h).1)
    | _ => cases h
  | _ => cases h
theorem snd_tpl {a : M} (ia : Snd P w K mg base N k a) : Snd P w K mg base N k (.tpl a) := fun sc X nd H F h => by
  cases nd with
  | e z =>
    cases z with
    | Tuple xs kk pos => exact ex_of rfl (de_tup (ia sc X _ H F h).1)
    | _ => cases h
  | _ => cases h
theorem snd_dic0 : Snd P w K mg base N k .dic0 := fun sc X nd H F h => by
  cases nd with
  | e z =>
    cases z with
    | Dict ks vs pos =>
      cases ks with
      | nil =>
        cases vs with
        | nil => exact ex_of rfl de_dic0
        | cons _ _ => cases h
      | cons _ _ => cases h
    | _ => cases h
  | _ => cases h
theorem snd_dic {a : M} (ia : Snd P w K mg base N k a) : Snd P w K mg base N k (.dic a) := fun sc X nd H F h => by
  cases nd with
  | e z =>
    cases z with
    | Dict ks vs pos =>
      have h : (chk a N sc (.ps ks vs) && ks.all (·.isSome) && decide (ks.length = vs.length) && !ks.isEmpty && decide (ks.length ≤ 15)) = true := h
      obtain ⟨h, h5⟩ := an h
      obtain ⟨h, h4⟩ := an h
      obtain ⟨h, h3⟩ := an h
      obtain ⟨h1, h2⟩ := an h
      exact ex_of rfl (de_dic (ia sc X _ H F h1 pos) h2 (of_decide_eq_true h3) (fun z => by rw [z] at h4; cases h4) (of_decide_eq_true h5))
    | _ => cases h
  | _ => cases h
theorem snd_sub {a b : M} (ia : Snd P w K mg base N k a) (ib : Snd P w K mg base N k b) : Snd P w K mg base N k (.sub a b) := fun sc X nd H F h => by
  cases nd with
  | e z =>
    cases z with
    | Subscript x y pos =>
      have h : (chk a N sc (.e x) && chk b N sc (.e y) && !isSlice y) = true := h
      obtain ⟨h, h3⟩ := an h
      obtain ⟨h1, h2⟩ := an h
      exact ex_of rfl (de_sub H.u64 (ia sc X _ H F.1 h1).1 (ib sc X _ H F.2 h2).1 (plain_ix (ng h3)))
    | _ => cases h
  | _ => cases h
theorem snd_sli {a b c : M} (ia : Snd P w K mg base N k a) (ib : Snd P w K mg base N k b) (ic : Snd P w K mg base N k c) : Snd P w K mg base N k (.sli a b c) := fun sc X nd H F h => by
  cases nd with
  | e z =>
    cases z with
    | Subscript x y pos =>
      cases y with
      | Slice l u st p =>
        cases st with
        | none =>
          have h : (chk a N sc (.e x) && chk b N sc (.o l) && chk c N sc (.o u)) = true := h
          obtain ⟨h, h3⟩ := an h
          obtain ⟨h1, h2⟩ := an h
          exact ex_of rfl (de_sli (ia sc X _ H F.1 h1).1 (ib sc X _ H F.2.1 h2) (ic sc X _ H F.2.2 h3))
        | some _ => cases h
      | _ => cases h
    | _ => cases h
  | _ => cases h
end
end DL
end
section
/-! D17: .. calls, comprehensions, statements. -/
namespace DL
open PySem PySem.Spec PyProof.Rows L2
section
variable {P : Program} {w : World} {K : PySem.W.Frag} {mg : Str → Option Value} {base : Heap} {N : List Str} {k : Nat}
theorem snd_ch2 {o1 o2 : CmpOp} {a b c : M} (ia : Snd P w K mg base N k a) (ib : Snd P w K mg base N k b) (ic : Snd P w K mg base N k c) : Snd P w K mg base N k (.ch2 o1 o2 a b c) := fun sc X nd H F h => by
  cases nd with
  | e z =>
    cases z with
    | Compare x ops ys pos =>
      match ops, ys, h with
      | [p1, p2], [y, z], h =>
        have h : (decide (o1 = p1) && decide (o2 = p2) && chk a N sc (.e x) && chk b N sc (.e y) && chk c N sc (.e z) && !isSet z) = true := h
        obtain ⟨h, h6⟩ := an h
        obtain ⟨h, h5⟩ := an h
        obtain ⟨h, h4⟩ := an h
        obtain ⟨h, h3⟩ := an h
        obtain ⟨h1, h2⟩ := an h
        obtain rfl := of_decide_eq_true h1
        obtain rfl := of_decide_eq_true h2
        have a1 := (ia sc X _ H F.1 h3).1
        have b1 := (ib sc X _ H F.2.1 h4).1
        have c1 := (ic sc X _ H F.2.2 h5).1
        exact ⟨de_chain H.u64 o1 o2 a1 b1 c1 (marks_no (ng h6)), dt_chain H.u64 o1 o2 a1 b1 c1 (marks_no (ng h6))⟩
      | [], _, h => cases h
      | [_], _, h => cases h
      | _ :: _ :: _ :: _, _, h => cases h
      | [_, _], [], h => cases h
      | [_, _], [_], h => cases h
      | [_, _], _ :: _ :: _ :: _, h => cases h
    | _ => cases h
  | _ => cases h
theorem args_star {X : Cx} {x : Expr} {xs : List Expr} {pos : Pos} (h : ((x :: xs).all fun e => !isStar e) = true) : starEach (x :: xs) X.env = (false, eval x X.env) :: starEach xs X.env ∧ (backTo pos (starEach xs X.env)).any (·.1) = false := by
  rw [List.all_cons] at h
  obtain ⟨h1, h2⟩ := an h
  exact ⟨star_cons (ng h1), back_star h2⟩
theorem snd_cal {x : Str} {sp : SpD} {dfl : List D} {a : M} (ia : Snd P w K mg base N k a) : Snd P w K mg base N k (.cal x sp dfl a) := fun sc X nd H F h => by
  cases nd with
  | e z =>
    cases z with
    | Call f xs kw pos =>
      cases f with
      | Name y p =>
        cases kw with
        | nil =>
          have h : (decide (x = y) && glB sc x && okN x && chk a N sc (.es xs)) = true := h
          obtain ⟨h, h4⟩ := an h
          obtain ⟨h, h3⟩ := an h
          obtain ⟨h1, h2⟩ := an h
          obtain rfl := of_decide_eq_true h1
          obtain ⟨⟨j, hj, G⟩, Fa⟩ := F
          have G' : FnG X.prog X.w X.K X.mg X.base j x sp dfl := by rw [H.prog, H.wd, H.frag, H.glob, H.bs]; exact G
          obtain ⟨a1, a2, a3, _⟩ := ia sc X _ H Fa h4
          refine ex_of rfl ?_
          cases xs with
          | nil =>
            have hn := a3.mp rfl
            cases a with
            | nil => exact de_call0 G' (H.room.mono hj) H.guards (H.gl h2) (okN_ok h3).1
            | _ => cases hn
          | cons e es => exact de_call G' (H.room.mono hj) H.guards (H.gl h2) a1 (okN_ok h3).1 (args_star (pos := pos) a2).1 (args_star a2).2
        | cons _ _ => cases h
      | _ => cases h
    | _ => cases h
  | _ => cases h
theorem snd_bca (hsm : ∃ o, K.lookup sysModules = some o) {b : BI} {a : M} (ia : Snd P w K mg base N k a) : Snd P w K mg base N k (.bca b a) := fun sc X nd H F h => by
  cases nd with
  | e z =>
    cases z with
    | Call f xs kw pos =>
      cases f with
      | Name y p =>
        cases xs with
        | nil => cases h
        | cons x xs =>
          cases kw with
          | nil =>
            have h : (decide (b.name = y) && glB sc y && chk a N sc (.es (x :: xs))) = true := h
            obtain ⟨h, h3⟩ := an h
            obtain ⟨h1, h2⟩ := an h
            obtain rfl := of_decide_eq_true h1
            obtain ⟨a1, a2, _⟩ := ia sc X _ H F.2 h3
            refine ex_of rfl ?_
            have := de_bca (X := X) (p := p) (pos := pos) (H.mx hsm) b (H.gl h2) (by rw [H.glob]; exact F.1) a1 (args_star (pos := pos) a2).1 (args_star a2).2
            rw [H.frag] at this
            exact this
          | cons _ _ => cases h
      | _ => cases h
    | _ => cases h
  | _ => cases h
theorem snd_lrg {a : M} (ia : Snd P w K mg base N k a) : Snd P w K mg base N k (.lrg a) := fun sc X nd H F h => by
  cases nd with
  | e z =>
    cases z with
    | Call f xs kw pos =>
      cases f with
      | Name y p =>
        cases xs with
        | nil => cases h
        | cons c xs =>
          cases c with
          | Call f2 xs2 kw2 q =>
            cases f2 with
            | Name z pz =>
              cases xs2 with
              | nil => cases h
              | cons x xs3 =>
                cases xs3 with
                | cons _ _ => cases h
                | nil =>
                  cases kw2 with
                  | cons _ _ => cases h
                  | nil =>
                    cases xs with
                    | cons _ _ => cases h
                    | nil =>
                      cases kw with
                      | cons _ _ => cases h
                      | nil =>
                        have h : (decide (y = "list") && glB sc y && decide (z = "range") && glB sc z && !isStar x && chk a N sc (.e x)) = true := h
                        obtain ⟨h, h6⟩ := an h
                        obtain ⟨h, h5⟩ := an h
                        obtain ⟨h, h4⟩ := an h
                        obtain ⟨h, h3⟩ := an h
                        obtain ⟨h1, h2⟩ := an h
                        obtain rfl := of_decide_eq_true h1
                        obtain rfl := of_decide_eq_true h3
                        exact ex_of rfl (de_lrg H.calm (H.gl h2) (by rw [H.glob]; exact F.1) (H.gl h4) (by rw [H.glob]; exact F.2.1) (ia sc X _ H F.2.2 h6).1 (ng h5))
            | _ => cases h
          | _ => cases h
      | _ => cases h
    | _ => cases h
  | _ => cases h
/-! ### what is walked -/
theorem snd_iva {a : M} (ia : Snd P w K mg base N k a) : Snd P w K mg base N k (.iva a) := fun sc X nd H F h => by
  cases nd with
  | i tg x => exact di_val (ia sc X _ H F h).1
  | _ => cases h
theorem snd_irg {a : M} (ia : Snd P w K mg base N k a) : Snd P w K mg base N k (.irg a) := fun sc X nd H F h => by
  cases nd with
  | i tg z =>
    cases z with
    | Call f xs kw pos =>
      cases f with
      | Name y p =>
        cases xs with
        | nil => cases h
        | cons x xs =>
          cases xs with
          | cons _ _ => cases h
          | nil =>
            cases kw with
            | cons _ _ => cases h
            | nil =>
              have h : (decide (y = "range") && glB sc y && !isStar x && chk a N sc (.e x)) = true := h
              obtain ⟨h, h4⟩ := an h
              obtain ⟨h, h3⟩ := an h
              obtain ⟨h1, h2⟩ := an h
              obtain rfl := of_decide_eq_true h1
              exact di_range1 (H.gl h2) (by rw [H.glob]; exact F.1) (da_cons (ia sc X _ H F.2 h4).1 da_nil (star_cons (ng h3))) (star_cons (ng h3))
      | _ => cases h
    | _ => cases h
  | _ => cases h
theorem snd_ien {a : M} (ia : Snd P w K mg base N k a) : Snd P w K mg base N k (.ien a) := fun sc X nd H F h => by
  cases nd with
  | i tg z =>
    cases tg with
    | Tuple elts kk tpos =>
      cases z with
      | Call f xs kw pos =>
        cases f with
        | Name y p =>
          cases xs with
          | nil => cases h
          | cons x xs =>
            cases xs with
            | cons _ _ => cases h
            | nil =>
              cases kw with
              | cons _ _ => cases h
              | nil =>
                have h : (decide (y = "enumerate") && glB sc y && !isStar x && chk a N sc (.e x)) = true := h
                obtain ⟨h, h4⟩ := an h
                obtain ⟨h, h3⟩ := an h
                obtain ⟨h1, h2⟩ := an h
                obtain rfl := of_decide_eq_true h1
                exact di_enum (H.gl h2) (by rw [H.glob]; exact F.1) (da_cons (ia sc X _ H F.2 h4).1 da_nil (star_cons (ng h3))) (star_cons (ng h3))
        | _ => cases h
      | _ => cases h
    | _ => cases h
  | _ => cases h
/-! ### comprehensions -/
theorem pgs_ct {X : Cx} {sc : Scope} (hN : N.Nodup) (H : Here P w K mg base N sc k X) : ∀ {is : List Nat} {es : List Expr}, ctChk.go N sc is es = true → PGs X es (gList is) ∧ es.length = is.length ∧ (es.all fun e => !isStar e) = true
  | [], [], _ => ⟨pgs_nil, rfl, rfl⟩
  | [], _ :: _, h => by cases h
  | _ :: _, [], h => by cases h
  | i :: is, e :: es, h => by
    cases e with
    | Name x p =>
      have h : (decide (N[i]? = some x) && lclB sc x && ctChk.go N sc is es) = true := h
      obtain ⟨h, h3⟩ := an h
      obtain ⟨h1, h2⟩ := an h
      obtain ⟨g1, g2, g3⟩ := pgs_ct hN H h3
      have lk : X.env.scope.names.lookup x = some .local := by rw [H.scope]; exact lclB_ok h2
      exact ⟨pgs_cons (pg_name (by rw [H.names]; exact hN) (by rw [H.names]; exact of_decide_eq_true h1) (.inl lk) (.inr lk)) g1 rfl, by rw [List.length_cons, List.length_cons, g2], by rw [List.all_cons, g3]; rfl⟩
    | _ => cases h
theorem pg_ct {X : Cx} {sc : Scope} {c : CT} {tg : Expr} (hN : N.Nodup) (H : Here P w K mg base N sc k X) (h : ctChk N sc c tg = true) : PG X tg (gCT X.K c) := by
  cases c with
  | one i =>
    cases tg with
    | Name x p =>
      obtain ⟨h1, h2⟩ := an (show (decide (N[i]? = some x) && lclB sc x) = true from h)
      have lk : X.env.scope.names.lookup x = some .local := by rw [H.scope]; exact lclB_ok h2
      exact pg_name (by rw [H.names]; exact hN) (by rw [H.names]; exact of_decide_eq_true h1) (.inl lk) (.inr lk)
    | _ => cases h
  | tup is =>
    cases tg with
    | Tuple es kk p =>
      obtain ⟨g1, g2, g3⟩ := pgs_ct hN H (show ctChk.go N sc is es = true from h)
      exact pg_tup H.calm g1 (by rw [asg_len, g2]) (asg_star g3)
    | _ => cases h
/-- a comprehension's parts -/
theorem lco_parts {e it ifs : M} {c : CT} {own : List (Str × Nat)} {sc : Scope} {elt : Expr} {gs : List Comprehension} {scope : Scope} {pos : Pos} (h : chk (.lco e c it ifs own) N sc (.e (.ListComp elt gs scope pos)) = true) :
    ∃ tg iter is, gs = [⟨tg, iter, is, 0⟩] ∧ chk it N sc (.i tg iter) = true ∧ blkC N sc scope own = true ∧ ctIn (own.map (·.2)) c = true ∧ ctChk N (relS scope sc) c tg = true ∧ chk ifs N (relS scope sc) (.ts is) = true ∧ chk e N (relS scope sc) (.e elt) = true ∧ isSet iter = false := by
  cases gs with
  | nil => cases h
  | cons g gs =>
    obtain ⟨tg, iter, is, asy⟩ := g
    cases gs with
    | cons _ _ => cases h
    | nil =>
      have h : (decide (asy = 0) && chk it N sc (.i tg iter) && blkC N sc scope own && ctIn (own.map (·.2)) c && ctChk N (relS scope sc) c tg && chk ifs N (relS scope sc) (.ts is) && chk e N (relS scope sc) (.e elt) && !isSet iter) = true := h
      obtain ⟨h, h8⟩ := an h
      obtain ⟨h, h7⟩ := an h
      obtain ⟨h, h6⟩ := an h
      obtain ⟨h, h5⟩ := an h
      obtain ⟨h, h4⟩ := an h
      obtain ⟨h, h3⟩ := an h
      obtain ⟨h1, h2⟩ := an h
      obtain rfl := of_decide_eq_true h1
      exact ⟨tg, iter, is, rfl, h2, h3, h4, h5, h6, h7, ng h8⟩
theorem snd_lco (hN : N.Nodup) {e it ifs : M} {c : CT} {own : List (Str × Nat)} (ie : Snd P w K mg base N k e) (ii : Snd P w K mg base N k it) (iff' : Snd P w K mg base N k ifs) : Snd P w K mg base N k (.lco e c it ifs own) := fun sc X nd H F h => by
  cases nd with
  | e z =>
    cases z with
    | ListComp elt gs scope pos =>
      obtain ⟨tg, iter, is, rfl, h2, h3, h4, h5, h6, h7, h8⟩ := lco_parts h
      refine ex_of rfl (de_lc H.calm (by rw [H.names]; exact hN) (ii sc X _ H F.2.1 h2) (by rw [H.names, H.scope]; exact blkOk_by h3) h4 (fun s Hh C cl fp => ?_) (fun s Hh C cl fp => ?_) (fun s Hh C cl fp => ?_) (fold_no h8))
      · exact pg_ct hN (H.blk s Hh scope cl C fp) h5
      · exact iff' _ _ _ (H.blk s Hh scope cl C fp) F.2.2 h6
      · exact (ie _ _ _ (H.blk s Hh scope cl C fp) F.1 h7).1.pe0
    | _ => cases h
  | _ => cases h
end
end DL
end
section
/-! D18: statements and targets that pass the look; all of it. -/
namespace DL
open PySem PySem.Spec PyProof.Rows L2

theorem congN {α β : Type _} {f : α → β} {n n' : α} {r : β} (h : n = n') (hr : f n' = r) : f n = r := by rw [h]; exact hr
theorem stores_two {env : Env} {x y : Str} {px py pt pt2 : Pos} {kt k2} {a b : Expr} (hk : env.scope.kind = .function) (hx : env.scope.names.lookup x = some .local) (hy : env.scope.names.lookup y = some .local) (hl : (px.line == py.line) = true) (hxy : x ≠ y)
    (ha : isStar a = false) (hb : isStar b = false) (h1 : [a, b].all (foldedForSure 8) = false) (h2 : [a, b].all (constantsAlone 8) = false) :
    swappedStores [.Tuple [.Name x px, .Name y py] kt pt] (.Tuple [a, b] k2 pt2) env = pure (some [x, y]) := by
  have kx : env.kindOf x = some .local := hx
  have ky : env.kindOf y = some .local := hy
  have kb : env.blockKind = .function := by unfold Env.blockKind; rw [hk]; rfl
  have hl' : (py.line == px.line) = true := beq_iff_eq.mpr (beq_iff_eq.mp hl).symm
  have nm : ∀ f : Expr → Option Str, f (.Name x px) = some x → f (.Name y py) = some y → [Expr.Name x px, Expr.Name y py].filterMap f = [x, y] := fun f e1 e2 => by
    rw [List.filterMap_cons, e1, List.filterMap_cons, e2]; rfl
  have dd : ([x, y] : List Str).eraseDups = [x, y] := by
    have : (y == x) = false := by simpa using fun e => hxy (by rw [e])
    rw [List.eraseDups_cons, List.filter_cons, this]; rfl
  unfold swappedStores
  show (if _ then _ else _) = _
  refine (if_neg ?_).trans ?_
  · rw [kb]; exact Bool.false_ne_true
  show (if _ then _ else _) = _
  refine (if_neg ?_).trans ?_
  · intro h
    rw [List.any_eq_true] at h
    obtain ⟨e, he, h⟩ := h
    have : isStar e = true := by cases e <;> first | rfl | cases h
    rcases List.mem_cons.mp he with rfl | he
    · rw [ha] at this; cases this
    · rcases List.mem_cons.mp he with rfl | he
      · rw [hb] at this; cases this
      · cases he
  refine congN (f := fun names : List Str => (if (names.length != [Expr.Name x px, Expr.Name y py].length || names.eraseDups.length != names.length) = true then pure none else if [a, b].all (foldedForSure 8) = true then pure none else if [a, b].all (constantsAlone 8) = true then (do let _ ← (unsupported "assign.tuple-of-constant-expressions:order-of-the-stores" : Sem Unit); pure (some names)) else pure (some names) : Sem (Option (List Str)))) (n' := [x, y]) (nm _ ?_ ?_) ?_
  · show (if _ then _ else _) = _; refine if_pos ?_; rw [kx]; show (true && (px.line == px.line)) = true; rw [beq_self_eq_true]; rfl
  · show (if _ then _ else _) = _; refine if_pos ?_; rw [ky]; show (true && (py.line == px.line)) = true; rw [hl']; rfl
  show (if _ then _ else _) = _
  refine (if_neg ?_).trans ?_
  · rw [dd]; exact Bool.false_ne_true
  refine (if_neg (by rw [h1]; exact Bool.false_ne_true)).trans ?_
  exact (if_neg (by rw [h2]; exact Bool.false_ne_true))
theorem swap_nm {e : Expr} {t : Expr} {l : Nat} {env : Env} (h : isName t = false) : swapsWith e (some t) l env = pure false := by
  cases t with
  | Name x p => cases h
  | _ => cases e <;> rfl

section
variable {P : Program} {w : World} {K : PySem.W.Frag} {mg : Str → Option Value} {base : Heap} {N : List Str} {k : Nat}
theorem snd_exp {a : M} (ia : Snd P w K mg base N k a) : Snd P w K mg base N k (.exp a) := fun sc X nd H F h => by
  cases nd with
  | s st =>
    cases st with
    | Expr x pos =>
      obtain ⟨h1, h2⟩ := an (show (chk a N sc (.e x) && !isComp x) = true from h)
      exact fun _ => ds_expr (ia sc X _ H F h1).1 (swap_no (ng h2))
    | _ => cases h
  | _ => cases h
theorem snd_ret {a : M} (ia : Snd P w K mg base N k a) : Snd P w K mg base N k (.ret a) := fun sc X nd H F h => by
  cases nd with
  | s st =>
    cases st with
    | Return x pos =>
      cases x with
      | none => cases h
      | some x => exact fun _ => ds_ret (ia sc X _ H F h).1
    | _ => cases h
  | _ => cases h
theorem snd_retN : Snd P w K mg base N k .retN := fun sc X nd H F h => by
  cases nd with
  | s st =>
    cases st with
    | Return x pos =>
      cases x with
      | none => exact fun _ => ds_retN
      | some x => cases h
    | _ => cases h
  | _ => cases h
theorem snd_pas : Snd P w K mg base N k .pas := fun sc X nd H F h => by
  cases nd with
  | s st => cases st <;> first | exact fun _ => ds_pass | cases h
  | _ => cases h
theorem snd_brk : Snd P w K mg base N k .brk := fun sc X nd H F h => by
  cases nd with
  | s st => cases st <;> first | exact fun _ => ds_break | cases h
  | _ => cases h
theorem snd_con : Snd P w K mg base N k .con := fun sc X nd H F h => by
  cases nd with
  | s st => cases st <;> first | exact fun _ => ds_cont | cases h
  | _ => cases h
theorem snd_nev : Snd P w K mg base N k .nev := fun sc X nd H F h => by
  cases nd with
  | s st => exact fun _ => ds_never
  | _ => cases h
theorem snd_tna (hN : N.Nodup) {i : Nat} {x : Str} : Snd P w K mg base N k (.tna i x) := fun sc X nd H F h => by
  cases nd with
  | g z =>
    cases z with
    | Name y pos =>
      have h : (decide (x = y) && decide (N[i]? = some x) && locB sc x) = true := h
      obtain ⟨h, h3⟩ := an h
      obtain ⟨h1, h2⟩ := an h
      obtain rfl := of_decide_eq_true h1
      exact fun T => dg_name (by rw [H.names]; exact hN) (by rw [H.names]; exact of_decide_eq_true h2) (by rw [H.scope]; exact locB_ok h3) (.inl (by rw [T.fn]))
    | _ => cases h
  | _ => cases h
theorem snd_ttu {a : M} (ia : Snd P w K mg base N k a) : Snd P w K mg base N k (.ttu a) := fun sc X nd H F h => by
  cases nd with
  | g z =>
    cases z with
    | Tuple xs kk pos =>
      exact fun T => by
        obtain ⟨g1, g2, g3⟩ := ia sc X _ H F h T
        exact dg_tup H.calm g1 (by rw [asg_len, g2]) (asg_star g3)
    | _ => cases h
  | _ => cases h
theorem snd_tsu {a b : M} (ia : Snd P w K mg base N k a) (ib : Snd P w K mg base N k b) : Snd P w K mg base N k (.tsu a b) := fun sc X nd H F h => by
  cases nd with
  | g z =>
    cases z with
    | Subscript x y pos =>
      have h : (chk a N sc (.e x) && chk b N sc (.e y) && !isSlice y) = true := h
      obtain ⟨h, h3⟩ := an h
      obtain ⟨h1, h2⟩ := an h
      exact fun _ => dg_sub H.u64 (ia sc X _ H F.1 h1).1 (ib sc X _ H F.2 h2).1 (sub_asg (ng h3))
    | _ => cases h
  | _ => cases h
theorem snd_iff {c a b : M} (ic : Snd P w K mg base N k c) (ia : Snd P w K mg base N k a) (ib : Snd P w K mg base N k b) : Snd P w K mg base N k (.iff c a b) := fun sc X nd H F h => by
  cases nd with
  | s st =>
    cases st with
    | If z x y pos =>
      have h : (chk c N sc (.e z) && chk a N sc (.ss x) && chk b N sc (.ss y)) = true := h
      obtain ⟨h, h3⟩ := an h
      obtain ⟨h1, h2⟩ := an h
      exact fun T => ds_if (ic sc X _ H F.1 h1).2 (ia sc X _ H F.2.1 h2 T) (ib sc X _ H F.2.2 h3 T)
    | _ => cases h
  | _ => cases h
theorem snd_whl {c a : M} (ic : Snd P w K mg base N k c) (ia : Snd P w K mg base N k a) : Snd P w K mg base N k (.whl c a) := fun sc X nd H F h => by
  cases nd with
  | s st =>
    cases st with
    | While z x y pos =>
      cases y with
      | cons _ _ => cases h
      | nil =>
        obtain ⟨h1, h2⟩ := an (show (chk c N sc (.e z) && chk a N sc (.ss x)) = true from h)
        exact fun T => ds_while T.own (ic sc X _ H F.1 h1).2 (ia sc X _ H F.2 h2 T)
    | _ => cases h
  | _ => cases h
theorem snd_fr {t i b : M} (it : Snd P w K mg base N k t) (ii : Snd P w K mg base N k i) (ib : Snd P w K mg base N k b) : Snd P w K mg base N k (.fr t i b) := fun sc X nd H F h => by
  cases nd with
  | s st =>
    cases st with
    | For tg iter x y pos =>
      cases y with
      | cons _ _ => cases h
      | nil =>
        have h : (chk t N sc (.g tg) && chk i N sc (.i tg iter) && chk b N sc (.ss x) && !isSet iter) = true := h
        obtain ⟨h, h4⟩ := an h
        obtain ⟨h, h3⟩ := an h
        obtain ⟨h1, h2⟩ := an h
        exact fun T => ds_for T.own H.calm (ii sc X _ H F.2.1 h2) (it sc X _ H F.1 h1 T) (ib sc X _ H F.2.2 h3 T) (fold_no (ng h4))
    | _ => cases h
  | _ => cases h
theorem snd_par (hN : N.Nodup) {i j : Nat} {x y : Str} {as : M} (ia : Snd P w K mg base N k as) : Snd P w K mg base N k (.par i x j y as) := fun sc X nd H F h => by
  cases nd with
  | s st =>
    cases st with
    | Assign ts v pos =>
      match ts, v, h with
      | [.Tuple [.Name x' px, .Name y' py] kt pt], .Tuple [a, b] k2 pt2, h =>
        have h : (decide (x = x') && decide (y = y') && decide (N[i]? = some x) && decide (N[j]? = some y) && decide (i ≠ j) && lclB sc x && lclB sc y && fnK sc && chk as N sc (.es [a, b]) &&
          (px.line == py.line) && decide (x ≠ y) && !([a, b].all (foldedForSure 8)) && !([a, b].all (constantsAlone 8))) = true := h
        obtain ⟨h, h13⟩ := an h
        obtain ⟨h, h12⟩ := an h
        obtain ⟨h, h11⟩ := an h
        obtain ⟨h, h10⟩ := an h
        obtain ⟨h, h9⟩ := an h
        obtain ⟨h, h8⟩ := an h
        obtain ⟨h, h7⟩ := an h
        obtain ⟨h, h6⟩ := an h
        obtain ⟨h, h5⟩ := an h
        obtain ⟨h, h4⟩ := an h
        obtain ⟨h, h3⟩ := an h
        obtain ⟨h1, h2⟩ := an h
        obtain rfl := of_decide_eq_true h1
        obtain rfl := of_decide_eq_true h2
        obtain ⟨a1, a2, _⟩ := ia sc X _ H F h9
        rw [List.all_cons, List.all_cons] at a2
        obtain ⟨s1, s2⟩ := an a2
        obtain ⟨s2, _⟩ := an s2
        have lx : X.env.scope.names.lookup x = some .local := by rw [H.scope]; exact lclB_ok h6
        have ly : X.env.scope.names.lookup y = some .local := by rw [H.scope]; exact lclB_ok h7
        exact fun T => ds_par H.calm (by rw [H.names]; exact hN) (by rw [H.names]; exact of_decide_eq_true h3) (by rw [H.names]; exact of_decide_eq_true h4) (of_decide_eq_true h5) lx ly a1
          (stores_two (by rw [H.scope]; exact fnK_ok h8) lx ly h10 (of_decide_eq_true h11) (ng s1) (ng s2) (ng h12) (ng h13)) rfl
    | _ => cases h
  | _ => cases h
theorem stores_none {tg e : Expr} {env : Env} (h : (!isTup tg || !isTup e) = true) : swappedStores [tg] e env = pure none := by
  cases ht : isTup tg with
  | false => exact stores_no ht
  | true =>
    have he : isTup e = false := by rw [ht] at h; simpa using h
    cases tg with
    | Tuple es kk p => exact stores_no2 he
    | List es p => cases e <;> first | rfl | cases he
    | _ => cases ht
theorem snd_asn (hN : N.Nodup) {t e : M} (it : Snd P w K mg base N k t) (ie : Snd P w K mg base N k e)
    (il : ∀ {sc : Scope} {X : Cx} {y : Str} {py pos : Pos} {x : Expr} {i : Nat}, Here P w K mg base N sc k X → Fn P w K mg base k e → chk e N sc (.e x) = true → swB sc (.Name y py) x = true → N[i]? = some y → DS X (.Assign [.Name y py] x pos) (sAsg (sem K e).e (gdName i))) :
    Snd P w K mg base N k (.asn t e) := fun sc X nd H F h => by
  cases nd with
  | s st =>
    cases st with
    | Assign ts x pos =>
      cases ts with
      | nil => cases h
      | cons tg ts =>
        cases ts with
        | cons _ _ => cases h
        | nil =>
          have h : (chk t N sc (.g tg) && chk e N sc (.e x) && !isStar tg && (!isComp x || swB sc tg x || !isName tg) && (!isTup tg || !isTup x)) = true := h
          obtain ⟨h, h5⟩ := an h
          obtain ⟨h, h4⟩ := an h
          obtain ⟨h, h3⟩ := an h
          obtain ⟨h1, h2⟩ := an h
          intro T
          have h1' : (assignEach [tg] X.env).map (·.2) = [assign tg X.env] := asg_cons (ng h3)
          cases hc : isComp x with
          | false => exact ds_asg (ie sc X _ H F.2 h2).1 (it sc X _ H F.1 h1 T) (swap_sole hc) (stores_none h5) h1'
          | true =>
            cases hn : isName tg with
            | false => exact ds_asg (ie sc X _ H F.2 h2).1 (it sc X _ H F.1 h1 T) (swap_nm hn) (stores_none h5) h1'
            | true =>
              rw [hc, hn, Bool.not_true, Bool.false_or, Bool.or_false] at h4
              cases tg with
              | Name y py =>
                cases t with
                | tna i z =>
                  have h1 : (decide (z = y) && decide (N[i]? = some z) && locB sc z) = true := h1
                  obtain ⟨h1, _⟩ := an h1
                  obtain ⟨e1, e2⟩ := an h1
                  obtain rfl := of_decide_eq_true e1
                  exact il H F.2 h2 h4 (of_decide_eq_true e2)
                | _ => cases h1
              | _ => cases hn
    | _ => cases h
  | _ => cases h
theorem set_lco (hN : N.Nodup) {e it ifs : M} {c : CT} {own : List (Str × Nat)} (ie : Snd P w K mg base N k e) (ii : Snd P w K mg base N k it) (iff' : Snd P w K mg base N k ifs)
    {sc : Scope} {X : Cx} {y : Str} {py pos : Pos} {x : Expr} {i : Nat} (H : Here P w K mg base N sc k X) (F : Fn P w K mg base k (.lco e c it ifs own)) (h : chk (.lco e c it ifs own) N sc (.e x) = true) (hs : swB sc (.Name y py) x = true) (hi : N[i]? = some y) : DS X (.Assign [.Name y py] x pos) (sAsg (sem K (.lco e c it ifs own)).e (gdName i)) := by
  cases x with
  | ListComp elt gs scope lpos =>
    obtain ⟨tg, iter, is, rfl, h2, h3, h4, h5, h6, h7, h8⟩ := lco_parts h
    have hs : (fnK sc && lclB sc y && (py.line == lpos.line) && !(scope.names.any fun (n, k) => n == y && (k == .local || k == .cell))) = true := hs
    obtain ⟨hs, s4⟩ := an hs
    obtain ⟨hs, s3⟩ := an hs
    obtain ⟨s1, s2⟩ := an hs
    have ly : X.env.scope.names.lookup y = some .local := by rw [H.scope]; exact lclB_ok s2
    exact ds_setLc H.calm (by rw [H.names]; exact hN) (by rw [H.names]; exact hi) ly (sw_true (by rw [H.scope]; exact fnK_ok s1) ly s3 (ng s4)) (ii sc X _ H F.2.1 h2) (by rw [H.names, H.scope]; exact blkOk_by h3) h4
      (fun s Hh C cl fp => pg_ct hN (H.blk s Hh scope cl C fp) h5) (fun s Hh C cl fp => iff' _ _ _ (H.blk s Hh scope cl C fp) F.2.2 h6) (fun s Hh C cl fp => (ie _ _ _ (H.blk s Hh scope cl C fp) F.1 h7).1.pe0) (fold_no h8)
  | _ => cases h
theorem snd_err {x : Str} {a : M} (ia : Snd P w K mg base N k a) : Snd P w K mg base N k (.err x a) := fun sc X nd H F h => by
  cases nd with
  | e z =>
    cases z with
    | Call f xs kw pos =>
      cases f with
      | Name y p =>
        cases xs with
        | nil => cases h
        | cons z xs =>
          cases xs with
          | cons _ _ => cases h
          | nil =>
            cases kw with
            | cons _ _ => cases h
            | nil =>
              have h : (decide (x = y) && glB sc x && okN x && !isStar z && chk a N sc (.e z)) = true := h
              obtain ⟨h, h5⟩ := an h
              obtain ⟨h, h4⟩ := an h
              obtain ⟨h, h3⟩ := an h
              obtain ⟨h1, h2⟩ := an h
              obtain rfl := of_decide_eq_true h1
              obtain ⟨⟨f1, f2, fI, D, f3, f4⟩, f5⟩ := F
              exact ex_of rfl (de_err (by rw [H.prog, H.frag]; exact f3) (by rw [H.frag]; exact f4) (H.room.mono f2) (H.gl h2) (by rw [H.glob]; exact f1) (ia sc X _ H f5 h5).1 (ng h4) (okN_ok h3).1)
      | _ => cases h
    | _ => cases h
  | _ => cases h
theorem snd_gcl {x : Str} : Snd P w K mg base N k (.gcl x) := fun sc X nd H F h => by
  cases nd with
  | e z =>
    cases z with
    | Name y pos =>
      have h : (decide (x = y) && glB sc x && okN x) = true := h
      obtain ⟨h, h3⟩ := an h
      obtain ⟨h1, h2⟩ := an h
      obtain rfl := of_decide_eq_true h1
      exact ex_of rfl (de_glo (d := .ref (He.ga K x)) (H.gl h2) ⟨.ref (He.ga K x), .ref (He.ga K x), by rw [H.glob]; exact F, rfl, fun _ => rfl⟩ (okN_ok h3).1)
    | _ => cases h
  | _ => cases h
theorem snd_atv {a : M} (ia : Snd P w K mg base N k a) : Snd P w K mg base N k (.atv a) := fun sc X nd H F h => by
  cases nd with
  | e z =>
    cases z with
    | Attribute z n pos =>
      have h : (decide (n = "value") && !isCall0 z && chk a N sc (.e z)) = true := h
      obtain ⟨h, h3⟩ := an h
      obtain ⟨h1, h2⟩ := an h
      obtain rfl := of_decide_eq_true h1
      exact ex_of rfl (de_val (ia sc X _ H F h3).1 (ng h2))
    | _ => cases h
  | _ => cases h
theorem snd_rev {a : M} (ia : Snd P w K mg base N k a) : Snd P w K mg base N k (.rev a) := fun sc X nd H F h => by
  cases nd with
  | e z =>
    cases z with
    | Subscript z i pos =>
      cases i with
      | Slice l u st p =>
        match l, u, st, h with
        | none, none, some (.UnaryOp .USub (.Constant (.int i) kk p1) p2), h =>
          obtain ⟨h1, h2⟩ := an (show (decide (i = 1) && chk a N sc (.e z)) = true from h)
          obtain rfl := of_decide_eq_true h1
          exact ex_of rfl (de_rev (ia sc X _ H F h2).1)
      | _ => cases h
    | _ => cases h
  | _ => cases h
theorem snd_upp {a : M} (ia : Snd P w K mg base N k a) : Snd P w K mg base N k (.upp a) := fun sc X nd H F h => by
  cases nd with
  | e z =>
    cases z with
    | Call f xs kw pos =>
      cases f with
      | Attribute z n ap =>
        cases xs with
        | cons _ _ => cases h
        | nil =>
          cases kw with
          | cons _ _ => cases h
          | nil =>
            have h : (decide (n = "upper") && !isCall0 z && (ap.endLine == pos.line) && chk a N sc (.e z)) = true := h
            obtain ⟨h, h4⟩ := an h
            obtain ⟨h, h3⟩ := an h
            obtain ⟨h1, h2⟩ := an h
            obtain rfl := of_decide_eq_true h1
            exact ex_of rfl (de_upp (ia sc X _ H F h4).1 (ng h2) h3)
      | _ => cases h
    | _ => cases h
  | _ => cases h
/-- the extra of `name = [comprehension]` -/
def SndL (P : Program) (w : World) (K : PySem.W.Frag) (mg : Str → Option Value) (base : Heap) (N : List Str) (k : Nat) (e : M) : Prop :=
  ∀ {sc : Scope} {X : Cx} {y : Str} {py pos : Pos} {x : Expr} {i : Nat}, Here P w K mg base N sc k X → Fn P w K mg base k e → chk e N sc (.e x) = true → swB sc (.Name y py) x = true → N[i]? = some y → DS X (.Assign [.Name y py] x pos) (sAsg (sem K e).e (gdName i))
theorem sndL_no {e : M} (h : ∀ (sc : Scope) (elt : Expr) (gs : List Comprehension) (scope : Scope) (pos : Pos), chk e N sc (.e (.ListComp elt gs scope pos)) = false) : SndL P w K mg base N k e := fun {sc X y py pos x i} H F hc hs hi => by
  cases x with
  | ListComp elt gs scope lpos => rw [h] at hc; cases hc
  | _ => cases hs
/-- ALL OF IT -/
theorem snd_all (hN : N.Nodup) (hsm : ∃ o, K.lookup sysModules = some o) : ∀ m : M, Snd P w K mg base N k m ∧ SndL P w K mg base N k m
  | .nil => ⟨snd_nil, sndL_no fun _ _ _ _ _ => rfl⟩
  | .cons a r => ⟨snd_cons (snd_all hN hsm a).1 (snd_all hN hsm r).1, sndL_no fun _ _ _ _ _ => rfl⟩
  | .pr a b c => ⟨snd_pr (snd_all hN hsm a).1 (snd_all hN hsm b).1 (snd_all hN hsm c).1, sndL_no fun _ _ _ _ _ => rfl⟩
  | .som a => ⟨snd_som (snd_all hN hsm a).1, sndL_no fun _ _ _ _ _ => rfl⟩
  | .cst c => ⟨snd_cst, sndL_no fun _ _ _ _ _ => rfl⟩
  | .loc i x => ⟨snd_loc, sndL_no fun _ _ _ _ _ => rfl⟩
  | .glo x d => ⟨snd_glo, sndL_no fun _ _ _ _ _ => rfl⟩
  | .bty x n => ⟨snd_bty, sndL_no fun _ _ _ _ _ => rfl⟩
  | .bin op a b => ⟨snd_bin (snd_all hN hsm a).1 (snd_all hN hsm b).1, sndL_no fun _ _ _ _ _ => rfl⟩
  | .neg a => ⟨snd_neg (snd_all hN hsm a).1, sndL_no fun _ _ _ _ _ => rfl⟩
  | .nt a => ⟨snd_nt (snd_all hN hsm a).1, sndL_no fun _ _ _ _ _ => rfl⟩
  | .boo op a => ⟨snd_boo (snd_all hN hsm a).1, sndL_no fun _ _ _ _ _ => rfl⟩
  | .cmp op a b => ⟨snd_cmp (snd_all hN hsm a).1 (snd_all hN hsm b).1, sndL_no fun _ _ _ _ _ => rfl⟩
  | .ch2 o1 o2 a b c => ⟨snd_ch2 (snd_all hN hsm a).1 (snd_all hN hsm b).1 (snd_all hN hsm c).1, sndL_no fun _ _ _ _ _ => rfl⟩
  | .ife a b c => ⟨snd_ife (snd_all hN hsm a).1 (snd_all hN hsm b).1 (snd_all hN hsm c).1, sndL_no fun _ _ _ _ _ => rfl⟩
  | .lis a => ⟨snd_lis (snd_all hN hsm a).1, sndL_no fun _ _ _ _ _ => rfl⟩
  | .tpl a => ⟨snd_tpl (snd_all hN hsm a).1, sndL_no fun _ _ _ _ _ => rfl⟩
  | .dic a => ⟨snd_dic (snd_all hN hsm a).1, sndL_no fun _ _ _ _ _ => rfl⟩
  | .dic0 => ⟨snd_dic0, sndL_no fun _ _ _ _ _ => rfl⟩
  | .sub a b => ⟨snd_sub (snd_all hN hsm a).1 (snd_all hN hsm b).1, sndL_no fun _ _ _ _ _ => rfl⟩
  | .sli a b c => ⟨snd_sli (snd_all hN hsm a).1 (snd_all hN hsm b).1 (snd_all hN hsm c).1, sndL_no fun _ _ _ _ _ => rfl⟩
  | .cal x sp dfl a => ⟨snd_cal (snd_all hN hsm a).1, sndL_no fun _ _ _ _ _ => rfl⟩
  | .bca b a => ⟨snd_bca hsm (snd_all hN hsm a).1, sndL_no fun _ _ _ _ _ => rfl⟩
  | .lrg a => ⟨snd_lrg (snd_all hN hsm a).1, sndL_no fun _ _ _ _ _ => rfl⟩
  | .lco e c it ifs own => ⟨snd_lco hN (snd_all hN hsm e).1 (snd_all hN hsm it).1 (snd_all hN hsm ifs).1, fun H F h hs hi => set_lco hN (snd_all hN hsm e).1 (snd_all hN hsm it).1 (snd_all hN hsm ifs).1 H F h hs hi⟩
  | .iva a => ⟨snd_iva (snd_all hN hsm a).1, sndL_no fun _ _ _ _ _ => rfl⟩
  | .irg a => ⟨snd_irg (snd_all hN hsm a).1, sndL_no fun _ _ _ _ _ => rfl⟩
  | .ien a => ⟨snd_ien (snd_all hN hsm a).1, sndL_no fun _ _ _ _ _ => rfl⟩
  | .exp a => ⟨snd_exp (snd_all hN hsm a).1, sndL_no fun _ _ _ _ _ => rfl⟩
  | .ret a => ⟨snd_ret (snd_all hN hsm a).1, sndL_no fun _ _ _ _ _ => rfl⟩
  | .retN => ⟨snd_retN, sndL_no fun _ _ _ _ _ => rfl⟩
  | .asn a b => ⟨snd_asn hN (snd_all hN hsm a).1 (snd_all hN hsm b).1 (snd_all hN hsm b).2, sndL_no fun _ _ _ _ _ => rfl⟩
  | .par i x j y a => ⟨snd_par hN (snd_all hN hsm a).1, sndL_no fun _ _ _ _ _ => rfl⟩
  | .iff a b c => ⟨snd_iff (snd_all hN hsm a).1 (snd_all hN hsm b).1 (snd_all hN hsm c).1, sndL_no fun _ _ _ _ _ => rfl⟩
  | .whl a b => ⟨snd_whl (snd_all hN hsm a).1 (snd_all hN hsm b).1, sndL_no fun _ _ _ _ _ => rfl⟩
  | .fr a b c => ⟨snd_fr (snd_all hN hsm a).1 (snd_all hN hsm b).1 (snd_all hN hsm c).1, sndL_no fun _ _ _ _ _ => rfl⟩
  | .pas => ⟨snd_pas, sndL_no fun _ _ _ _ _ => rfl⟩
  | .brk => ⟨snd_brk, sndL_no fun _ _ _ _ _ => rfl⟩
  | .con => ⟨snd_con, sndL_no fun _ _ _ _ _ => rfl⟩
  | .nev => ⟨snd_nev, sndL_no fun _ _ _ _ _ => rfl⟩
  | .tna i x => ⟨snd_tna hN, sndL_no fun _ _ _ _ _ => rfl⟩
  | .ttu a => ⟨snd_ttu (snd_all hN hsm a).1, sndL_no fun _ _ _ _ _ => rfl⟩
  | .tsu a b => ⟨snd_tsu (snd_all hN hsm a).1 (snd_all hN hsm b).1, sndL_no fun _ _ _ _ _ => rfl⟩
  | .err x a => ⟨snd_err (snd_all hN hsm a).1, sndL_no fun _ _ _ _ _ => rfl⟩
  | .gcl x => ⟨snd_gcl, sndL_no fun _ _ _ _ _ => rfl⟩
  | .atv a => ⟨snd_atv (snd_all hN hsm a).1, sndL_no fun _ _ _ _ _ => rfl⟩
  | .rev a => ⟨snd_rev (snd_all hN hsm a).1, sndL_no fun _ _ _ _ _ => rfl⟩
  | .upp a => ⟨snd_upp (snd_all hN hsm a).1, sndL_no fun _ _ _ _ _ => rfl⟩
/-- a def whose body passes the look -/
theorem fnM {x qual : Str} {params : Arguments} {body : List Stmt} {scope : Scope} {dvs : List V} {kws : List (Str × V)} {f : Addr} {fd : FuncData} {ps : List Str} {sp : SpD} (m : M)
    (hN : N.Nodup) (hsm : ∃ o, K.lookup sysModules = some o) (F : FunD K x qual params body scope dvs kws f fd) (S : FnScope N ps scope) (c : chk m N scope (.ss body) = true) (fn : Fn P w K mg base k m)
    (ar : ∀ ds G Q E, sp ds G Q E → ds.length = ps.length)
    (hp : ∀ ds G Q E, sp ds G Q E → (sem K m).s { nx := fun _ G' => Q .non G', rt := Q, ex := fun C d _ G' => E C d G' } (startD N ds) G) : FnOkG P w K mg base (k + 1) f fd ps (liftSp K sp) :=
  fnD F S ar (fun X H T => (snd_all hN hsm m).1 scope X _ H fn c T) hp
end
end DL
end
section
/-! S1: the readings of a text, part by part. -/
namespace DL
open PySem PySem.Spec PyProof.Rows L2
def dCmpT (op : CmpOp) (ta tb : TED) : TTD := fun σ G Q E => ta σ G (fun x G1 => tb σ G1 (fun y G2 => cmpR op x y G2 fun k => Q k G2) E) E
section
variable {K : PySem.W.Frag}
theorem se_cst (c : Const) : (sem K (.cst c)).e = cR c := rfl
theorem st_cst (c : Const) : (sem K (.cst c)).t = dTru (cR c) := rfl
theorem se_loc (i : Nat) (x : Str) : (sem K (.loc i x)).e = dVar i := rfl
theorem st_loc (i : Nat) (x : Str) : (sem K (.loc i x)).t = dTru (dVar i) := rfl
theorem se_glo (x : Str) (d : D) : (sem K (.glo x d)).e = dCst d := rfl
theorem st_glo (x : Str) (d : D) : (sem K (.glo x d)).t = dTru (dCst d) := rfl
theorem se_bty (x : Str) (n : String) : (sem K (.bty x n)).e = dCst (.ty n) := rfl
theorem st_bty (x : Str) (n : String) : (sem K (.bty x n)).t = dTru (dCst (.ty n)) := rfl
theorem se_bin (op : Operator) (a b : M) : (sem K (.bin op a b)).e = dOp2 (DL.bin op) (sem K a).e (sem K b).e := rfl
theorem st_bin (op : Operator) (a b : M) : (sem K (.bin op a b)).t = dTru (dOp2 (DL.bin op) (sem K a).e (sem K b).e) := rfl
theorem se_neg (a : M) : (sem K (.neg a)).e = dUn negD (sem K a).e := rfl
theorem st_neg (a : M) : (sem K (.neg a)).t = dTru (dUn negD (sem K a).e) := rfl
theorem se_lis (a : M) : (sem K (.lis a)).e = dLst (sem K a).a := rfl
theorem st_lis (a : M) : (sem K (.lis a)).t = dTru (dLst (sem K a).a) := rfl
theorem se_tpl (a : M) : (sem K (.tpl a)).e = dTup (sem K a).a := rfl
theorem st_tpl (a : M) : (sem K (.tpl a)).t = dTru (dTup (sem K a).a) := rfl
theorem se_dic (a : M) : (sem K (.dic a)).e = dDic (sem K a).ps := rfl
theorem st_dic (a : M) : (sem K (.dic a)).t = dTru (dDic (sem K a).ps) := rfl
theorem se_dic0  : (sem K .dic0).e = dDic0 := rfl
theorem st_dic0  : (sem K .dic0).t = dTru (dDic0) := rfl
theorem se_sub (a b : M) : (sem K (.sub a b)).e = dOp2 subD (sem K a).e (sem K b).e := rfl
theorem st_sub (a b : M) : (sem K (.sub a b)).t = dTru (dOp2 subD (sem K a).e (sem K b).e) := rfl
theorem se_sli (a b c : M) : (sem K (.sli a b c)).e = dSli (sem K a).e (sem K b).o (sem K c).o := rfl
theorem st_sli (a b c : M) : (sem K (.sli a b c)).t = dTru (dSli (sem K a).e (sem K b).o (sem K c).o) := rfl
theorem se_cal (x : Str) (sp : SpD) (dfl : List D) (a : M) : (sem K (.cal x sp dfl a)).e = dCall sp dfl (sem K a).a := rfl
theorem st_cal (x : Str) (sp : SpD) (dfl : List D) (a : M) : (sem K (.cal x sp dfl a)).t = dTru (dCall sp dfl (sem K a).a) := rfl
theorem se_bca (b : BI) (a : M) : (sem K (.bca b a)).e = dBca K b (sem K a).a := rfl
theorem st_bca (b : BI) (a : M) : (sem K (.bca b a)).t = dTru (dBca K b (sem K a).a) := rfl
theorem se_lrg (a : M) : (sem K (.lrg a)).e = dLrg (dCons (sem K a).e dNil) := rfl
theorem st_lrg (a : M) : (sem K (.lrg a)).t = dTru (dLrg (dCons (sem K a).e dNil)) := rfl
theorem se_lco (e : M) (c : CT) (it ifs : M) (own : List (Str × Nat)) : (sem K (.lco e c it ifs own)).e = dLc (sem K it).i c (sem K ifs).t (sem K e).e (own.map (·.2)) := rfl
theorem st_lco (e : M) (c : CT) (it ifs : M) (own : List (Str × Nat)) : (sem K (.lco e c it ifs own)).t = dTru (dLc (sem K it).i c (sem K ifs).t (sem K e).e (own.map (·.2))) := rfl
theorem se_err (x : Str) (a : M) : (sem K (.err x a)).e = dErr (He.ga K x) (sem K a).e := rfl
theorem st_err (x : Str) (a : M) : (sem K (.err x a)).t = dTru (dErr (He.ga K x) (sem K a).e) := rfl
theorem se_gcl (x : Str) : (sem K (.gcl x)).e = dCst (.ref (He.ga K x)) := rfl
theorem st_gcl (x : Str) : (sem K (.gcl x)).t = dTru (dCst (.ref (He.ga K x))) := rfl
theorem se_atv (a : M) : (sem K (.atv a)).e = dVal (sem K a).e := rfl
theorem st_atv (a : M) : (sem K (.atv a)).t = dTru (dVal (sem K a).e) := rfl
theorem se_rev (a : M) : (sem K (.rev a)).e = dRev (sem K a).e := rfl
theorem st_rev (a : M) : (sem K (.rev a)).t = dTru (dRev (sem K a).e) := rfl
theorem se_upp (a : M) : (sem K (.upp a)).e = dUpp (sem K a).e := rfl
theorem st_upp (a : M) : (sem K (.upp a)).t = dTru (dUpp (sem K a).e) := rfl
theorem sa_nil  : (sem K .nil).a = dNil := rfl
theorem sps_nil  : (sem K .nil).ps = [] := rfl
theorem so_nil  : (sem K .nil).o = dNoPart := rfl
theorem ss_nil  : (sem K .nil).s = sNext := rfl
theorem sgs_nil  : (sem K .nil).gs = gdNil := rfl
theorem stt_nil  : (sem K .nil).t = dYes := rfl
theorem sn_nil  : (sem K .nil).n = 0 := rfl
theorem sa_cons (a r : M) : (sem K (.cons a r)).a = dCons (sem K a).e (sem K r).a := rfl
theorem ss_cons (a r : M) : (sem K (.cons a r)).s = sSeq (sem K a).s (sem K r).s := rfl
theorem sgs_cons (a r : M) : (sem K (.cons a r)).gs = gdCons (sem K a).g (sem K r).gs := rfl
theorem sn_cons (a r : M) : (sem K (.cons a r)).n = (sem K r).n + 1 := rfl
theorem stt_cons (a r : M) : (sem K (.cons a r)).t = (sem K a).t := rfl
theorem san_1 (a : M) : (sem K (.cons a .nil)).an = (sem K a).e := rfl
theorem san_2 (a b r : M) : (sem K (.cons a (.cons b r))).an = dAndV (sem K a).e (sem K (.cons b r)).an := rfl
theorem sorr_1 (a : M) : (sem K (.cons a .nil)).orr = (sem K a).e := rfl
theorem sorr_2 (a b r : M) : (sem K (.cons a (.cons b r))).orr = dOrV (sem K a).e (sem K (.cons b r)).orr := rfl
theorem stan_1 (a : M) : (sem K (.cons a .nil)).tan = (sem K a).t := rfl
theorem stan_2 (a b r : M) : (sem K (.cons a (.cons b r))).tan = dAndT (sem K a).t (sem K (.cons b r)).tan := rfl
theorem stor_1 (a : M) : (sem K (.cons a .nil)).tor = (sem K a).t := rfl
theorem stor_2 (a b r : M) : (sem K (.cons a (.cons b r))).tor = dOrT (sem K a).t (sem K (.cons b r)).tor := rfl
theorem sps_pr (k v r : M) : (sem K (.pr k v r)).ps = ((sem K k).e, (sem K v).e) :: (sem K r).ps := rfl
theorem so_som (a : M) : (sem K (.som a)).o = dPart (sem K a).e := rfl
theorem se_nt (a : M) : (sem K (.nt a)).e = dNotV (sem K a).e := rfl
theorem st_nt (a : M) : (sem K (.nt a)).t = dNotT (sem K a).t := rfl
theorem se_And (a : M) : (sem K (.boo .And a)).e = (sem K a).an := rfl
theorem st_And (a : M) : (sem K (.boo .And a)).t = (sem K a).tan := rfl
theorem se_Or (a : M) : (sem K (.boo .Or a)).e = (sem K a).orr := rfl
theorem st_Or (a : M) : (sem K (.boo .Or a)).t = (sem K a).tor := rfl
theorem se_cmp (op : CmpOp) (a b : M) : (sem K (.cmp op a b)).e = dOp2 (DL.cmp op) (sem K a).e (sem K b).e := rfl
theorem st_cmp (op : CmpOp) (a b : M) : (sem K (.cmp op a b)).t = dCmpT op (sem K a).e (sem K b).e := rfl
theorem se_ch2 (o1 o2 : CmpOp) (a b c : M) : (sem K (.ch2 o1 o2 a b c)).e = dChain o1 o2 (sem K a).e (sem K b).e (sem K c).e := rfl
theorem st_ch2 (o1 o2 : CmpOp) (a b c : M) : (sem K (.ch2 o1 o2 a b c)).t = dChainT o1 o2 (sem K a).e (sem K b).e (sem K c).e := rfl
theorem se_ife (c a b : M) : (sem K (.ife c a b)).e = dIfE (sem K c).t (sem K a).e (sem K b).e := rfl
theorem st_ife (c a b : M) : (sem K (.ife c a b)).t = dIfT (sem K c).t (sem K a).t (sem K b).t := rfl
theorem si_iva (a : M) : (sem K (.iva a)).i = iVal (sem K a).e := rfl
theorem si_irg (a : M) : (sem K (.irg a)).i = iRange1 (dCons (sem K a).e dNil) := rfl
theorem si_ien (a : M) : (sem K (.ien a)).i = iEnum1 (dCons (sem K a).e dNil) := rfl
theorem ss_exp (a : M) : (sem K (.exp a)).s = sDrop (sem K a).e := rfl
theorem ss_ret (a : M) : (sem K (.ret a)).s = sRet (sem K a).e := rfl
theorem ss_retN  : (sem K .retN).s = sRetN := rfl
theorem ss_asn (t e : M) : (sem K (.asn t e)).s = sAsg (sem K e).e (sem K t).g := rfl
theorem ss_par (i : Nat) (x : Str) (j : Nat) (y : Str) (a : M) : (sem K (.par i x j y a)).s = sPar i j (sem K a).a := rfl
theorem ss_iff (c a b : M) : (sem K (.iff c a b)).s = sIf (sem K c).t (sem K a).s (sem K b).s := rfl
theorem ss_whl (c b : M) : (sem K (.whl c b)).s = sWhile (sem K c).t (sem K b).s := rfl
theorem ss_fr (t i b : M) : (sem K (.fr t i b)).s = sFor (sem K i).i (sem K t).g (sem K b).s := rfl
theorem ss_pas  : (sem K .pas).s = sNext := rfl
theorem ss_brk  : (sem K .brk).s = sBreak := rfl
theorem ss_con  : (sem K .con).s = sCont := rfl
theorem ss_nev  : (sem K .nev).s = sNever := rfl
theorem sg_tna (i : Nat) (x : Str) : (sem K (.tna i x)).g = gdName i := rfl
theorem sg_ttu (a : M) : (sem K (.ttu a)).g = gdTup (sem K a).n (sem K a).gs := rfl
theorem sg_tsu (o i : M) : (sem K (.tsu o i)).g = gdSub (sem K o).e (sem K i).e := rfl
theorem cR_non  : cR .none = dCst .non := rfl
theorem cR_bool (b : Bool) : cR (.bool b) = dCst (.bl b) := rfl
theorem cR_int (i : Int) : cR (.int i) = dCst (.int i) := rfl
theorem cR_str (z : Str) : cR (.str z) = dCst (.str z) := rfl
end
end DL
end
section
/-! D19: the pot of a law: its draws. -/
namespace DL
open PySem PySem.Spec PyProof.Rows L2

def N_take : List Str := ["_law_pot_here", "_law_upto", "_law_digit", "_law_prime", "_law_mixed"]
def m_take : M := (.cons (.iff (.cmp .Gt (.sub (.loc 0 "_law_pot_here") (.cst (.int 0))) (.cst (.int 0))) (.cons (.asn (.tna 2 "_law_digit") (.bin .Mod (.bca .int (.cons (.sub (.loc 0 "_law_pot_here") (.cst (.int 0))) .nil)) (.loc 1 "_law_upto"))) (.cons (.asn (.tsu (.loc 0 "_law_pot_here") (.cst (.int 0))) (.bin .FloorDiv (.sub (.loc 0 "_law_pot_here") (.cst (.int 0))) (.loc 1 "_law_upto"))) (.cons (.ret (.loc 2 "_law_digit")) .nil))) .nil) (.cons (.asn (.tsu (.loc 0 "_law_pot_here") (.cst (.int 2))) (.bin .Add (.sub (.loc 0 "_law_pot_here") (.cst (.int 2))) (.cst (.int 1)))) (.cons (.asn (.tna 3 "_law_prime") (.sub (.lis (.cons (.cst (.int 2147483647)) (.cons (.cst (.int 2147483629)) (.cons (.cst (.int 2147483587)) (.cons (.cst (.int 2147483579)) (.cons (.cst (.int 2147483563)) .nil)))))) (.bin .Mod (.bca .int (.cons (.sub (.loc 0 "_law_pot_here") (.cst (.int 2))) .nil)) (.cst (.int 5))))) (.cons (.asn (.tna 4 "_law_mixed") (.bin .Mod (.bca .int (.cons (.bin .Pow (.bca .int (.cons (.bin .Add (.bin .Add (.sub (.loc 0 "_law_pot_here") (.cst (.int 1))) (.bin .Mult (.bin .Mult (.cst (.int 100049)) (.sub (.loc 0 "_law_pot_here") (.cst (.int 2)))) (.sub (.loc 0 "_law_pot_here") (.cst (.int 2))))) (.cst (.int 41))) .nil)) (.cst (.int 3))) .nil)) (.loc 3 "_law_prime"))) (.cons (.asn (.tna 4 "_law_mixed") (.bin .Mod (.bca .int (.cons (.bin .Mult (.loc 4 "_law_mixed") (.bin .Add (.bin .Mod (.bca .int (.cons (.loc 4 "_law_mixed") .nil)) (.cst (.int 10039))) (.bin .Mult (.cst (.int 91)) (.sub (.loc 0 "_law_pot_here") (.cst (.int 2)))))) .nil)) (.cst (.int 2305843009213693907)))) (.cons (.ret (.bin .Mod (.bca .int (.cons (.bin .FloorDiv (.loc 4 "_law_mixed") (.cst (.int 127))) .nil)) (.loc 1 "_law_upto"))) .nil))))))

/-- a pot at p, at most n draws made -/
def Pot (n : Nat) (G : Gp) (p : Addr) : Prop := ∃ o m c : Int, G p = some (.lst [.int o, .int m, .int c]) ∧ 0 ≤ o ∧ o < 10 ^ 300 ∧ 0 ≤ m ∧ m < 2 ^ 62 ∧ 0 ≤ c ∧ c ≤ n
/-- but for p, all that was there is there -/
def Ext (p : Addr) (G G' : Gp) : Prop := ∀ a o, a ≠ p → G a = some o → G' a = some o
def spTake : SpD := fun ds G Q _ => ∃ (p : Addr) (u : Int) (n : Nat), ds = [.ref p, .int u] ∧ Pot n G p ∧ n < 100000 ∧ 0 < u ∧ u < 1000000 ∧ ∀ (v : Int) (G' : Gp), 0 ≤ v → v < u → Pot (n + 1) G' p → Ext p G G' → Q (.int v) G'
local macro_rules | `(tactic| get_elem_tactic_trivial) => `(tactic| simp only [se_cst, st_cst, se_loc, st_loc, se_glo, st_glo, se_bty, st_bty, se_bin, st_bin, se_neg, st_neg, se_lis, st_lis, se_tpl, st_tpl, se_dic, st_dic, se_dic0, st_dic0, se_sub, st_sub, se_sli, st_sli, se_cal, st_cal, se_bca, st_bca, se_lrg, st_lrg, se_lco, st_lco, se_err, st_err, se_gcl, st_gcl, se_atv, st_atv, se_rev, st_rev, se_upp, st_upp, sa_nil, sps_nil, so_nil, ss_nil, sgs_nil, stt_nil, sn_nil, sa_cons, ss_cons, sgs_cons, sn_cons, stt_cons, san_1, san_2, sorr_1, sorr_2, stan_1, stan_2, stor_1, stor_2, sps_pr, so_som, se_nt, st_nt, se_And, st_And, se_Or, st_Or, se_cmp, st_cmp, se_ch2, st_ch2, se_ife, st_ife, si_iva, si_irg, si_ien, ss_exp, ss_ret, ss_retN, ss_asn, ss_par, ss_iff, ss_whl, ss_fr, ss_pas, ss_brk, ss_con, ss_nev, sg_tna, sg_ttu, sg_tsu, cR_non, cR_bool, cR_int, cR_str, sSeq, sIf, sAsg, sRet, sNext, dOp2, dVar, dCst, dCmpT, dBca, dCons, dNil, gdName, gdSub, dLst, List.getElem?_cons_zero, List.getElem?_cons_succ, List.set_cons_zero, List.set_cons_succ])
theorem bits_le {x : Int} {k : Nat} (h0 : 0 ≤ x) (h : x < 2 ^ k) : Builtin.Int.intBits x ≤ k := by
  unfold Builtin.Int.intBits
  split
  · omega
  · rename_i hx
    have hne : x.natAbs ≠ 0 := fun e => hx (by have : x = 0 := by omega
                                               rw [this]; rfl)
    have : x.natAbs < 2 ^ k := by
      have : ((x.natAbs : Nat) : Int) < ((2 ^ k : Nat) : Int) := by rw [Int.natAbs_of_nonneg h0]; simpa using h
      omega
    have := (Nat.log2_lt hne).mpr this
    omega
theorem mul_le {i j : Int} (a b : Nat) (h0 : 0 ≤ i) (h : i < 2 ^ a) (h1 : 0 ≤ j) (h2 : j < 2 ^ b) (hab : a + b ≤ 134217728) : CMulX i j := by
  have := bits_le h0 h
  have := bits_le h1 h2
  show (Builtin.Int.intBits i : Int) + (Builtin.Int.intBits j : Int) ≤ 134217728
  omega
section
variable {p : Addr} {G : Gp} {o m c : Int} {Q : KD}
theorem bin_addI {i j : Int} : DL.bin .Add (.int i) (.int j) G Q = Q (.int (i + j)) G := rfl
theorem bin_subI {i j : Int} : DL.bin .Sub (.int i) (.int j) G Q = Q (.int (i - j)) G := rfl
theorem bin_mulI {i j : Int} : DL.bin .Mult (.int i) (.int j) G Q = (CMulX i j ∧ Q (.int (i * j)) G) := rfl
theorem bin_modI {i j : Int} : DL.bin .Mod (.int i) (.int j) G Q = (0 < j ∧ Q (.int (i % j)) G) := rfl
theorem bin_divI {i j : Int} : DL.bin .FloorDiv (.int i) (.int j) G Q = (CDivW i j ∧ Q (.int (i / j)) G) := rfl
theorem bin_powI {i j : Int} : DL.bin .Pow (.int i) (.int j) G Q = (0 ≤ j ∧ (Builtin.Int.intBits i : Int) * j ≤ 2 ^ 27 ∧ Q (.int (i ^ j.toNat)) G) := rfl
theorem bi_intI {K : PySem.W.Frag} {i : Int} : biR K .int [.int i] G Q = Q (.int i) G := rfl
theorem bi_intB {K : PySem.W.Frag} {b : Bool} : biR K .int [.bl b] G Q = Q (.int (if b then 1 else 0)) G := rfl
theorem bi_absI {K : PySem.W.Frag} {i : Int} : biR K .abs [.int i] G Q = Q (.int (if i < 0 then -i else i)) G := rfl
theorem pot0 (h : G p = some (.lst [.int o, .int m, .int c])) : subD (.ref p) (.int 0) G Q = Q (.int o) G := by simp only [subD, h]; rfl
theorem pot1 (h : G p = some (.lst [.int o, .int m, .int c])) : subD (.ref p) (.int 1) G Q = Q (.int m) G := by simp only [subD, h]; rfl
theorem pot2 (h : G p = some (.lst [.int o, .int m, .int c])) : subD (.ref p) (.int 2) G Q = Q (.int c) G := by simp only [subD, h]; rfl
theorem pot0s {v : Int} {k : Gp → Prop} (h : G p = some (.lst [.int o, .int m, .int c])) : setD (.ref p) (.int 0) (.int v) G k = k (up G p (.lst [.int v, .int m, .int c])) := by simp only [setD, h]; rfl
theorem pot2s {v : Int} {k : Gp → Prop} (h : G p = some (.lst [.int o, .int m, .int c])) : setD (.ref p) (.int 2) (.int v) G k = k (up G p (.lst [.int o, .int m, .int v])) := by simp only [setD, h]; rfl
end
section
variable {K : PySem.W.Frag}
theorem take_hp (ds : List D) (G : Gp) (Q : D → Gp → Prop) (E : Addr → D → Gp → Prop) (h : spTake ds G Q E) : (sem K m_take).s { nx := fun _ G' => Q .non G', rt := Q, ex := fun C d _ G' => E C d G' } (startD N_take ds) G := by
  obtain ⟨p, u, n, rfl, ⟨o, m, c, hG, ho, ho2, hm, hm2, hc, hc2⟩, hn, hu, hu2, hQ⟩ := h
  have st : startD N_take [.ref p, .int u] = [some (.ref p), some (.int u), none, none, none] := rfl
  rw [st]
  unfold m_take
  get_elem_tactic_trivial
  simp only [pot0 hG, pot2 hG]
  show (if decide (0 < o) = true then _ else _)
  by_cases h0 : 0 < o
  · rw [if_pos (decide_eq_true h0)]
    show 0 < u ∧ _
    refine ⟨hu, ?_⟩
    simp only [pot0 hG]
    show CDivW o u ∧ _
    refine ⟨⟨hu, ?_⟩, ?_⟩
    · show u.natAbs.log2 < 9000
      have : u.natAbs < 2 ^ 20 := by omega
      have := (Nat.log2_lt (show u.natAbs ≠ 0 by omega)).mpr this
      omega
    · simp only [pot0s hG]
      refine hQ _ _ (Int.emod_nonneg _ (by omega)) (Int.emod_lt_of_pos _ hu) ⟨o / u, m, c, up_same, Int.ediv_nonneg ho (by omega), ?_, hm, hm2, hc, by omega⟩ fun a x ha hx => by rw [up_ne ha]; exact hx
      exact Int.lt_of_le_of_lt (Int.ediv_le_self _ ho) ho2
  · rw [if_neg (fun z => h0 (of_decide_eq_true z))]
    simp only [bin_addI, pot2s hG]
    refine ⟨by show 5 ≤ sizeLine; rw [sizeLine_eq]; omega, fun q hq => ?_⟩
    have hqp : q ≠ p := fun e => by subst e; rw [up_same] at hq; cases hq
    have hG2 : (up (up G p (.lst [.int o, .int m, .int (c + 1)])) q (.lst [.int 2147483647, .int 2147483629, .int 2147483587, .int 2147483579, .int 2147483563])) p = some (.lst [.int o, .int m, .int (c + 1)]) := by rw [up_ne (Ne.symm hqp)]; exact up_same
    have hG3 : (up (up G p (.lst [.int o, .int m, .int (c + 1)])) q (.lst [.int 2147483647, .int 2147483629, .int 2147483587, .int 2147483579, .int 2147483563])) q = some (.lst [.int 2147483647, .int 2147483629, .int 2147483587, .int 2147483579, .int 2147483563]) := up_same
    have ext : Ext p G (up (up G p (.lst [.int o, .int m, .int (c + 1)])) q (.lst [.int 2147483647, .int 2147483629, .int 2147483587, .int 2147483579, .int 2147483563])) := fun a x ha hx => by
      rw [up_ne, up_ne ha]
      · exact hx
      · intro e; subst e; rw [up_ne ha, hx] at hq; cases hq
    generalize up (up G p (.lst [.int o, .int m, .int (c + 1)])) q (.lst [.int 2147483647, .int 2147483629, .int 2147483587, .int 2147483579, .int 2147483563]) = G2 at hG2 hG3 ext ⊢
    simp only [pot1 hG2, pot2 hG2, bi_intI, bin_modI]
    refine ⟨by decide, ?_⟩
    have pr : ∀ k : KD, (∀ pr : Int, 2147483563 ≤ pr → pr ≤ 2147483647 → k (.int pr) G2) → subD (.ref q) (.int ((c + 1) % 5)) G2 k := fun k hk => by
      have h1 := Int.emod_nonneg (c + 1) (show (5 : Int) ≠ 0 by decide)
      have h2 := Int.emod_lt_of_pos (c + 1) (show (0 : Int) < 5 by decide)
      generalize (c + 1) % 5 = r at h1 h2 ⊢
      simp only [subD, hG3]
      have : r = 0 ∨ r = 1 ∨ r = 2 ∨ r = 3 ∨ r = 4 := by omega
      rcases this with rfl | rfl | rfl | rfl | rfl
      · exact hk _ (by decide) (by decide)
      · exact hk _ (by decide) (by decide)
      · exact hk _ (by decide) (by decide)
      · exact hk _ (by decide) (by decide)
      · exact hk _ (by decide) (by decide)
    refine pr _ fun pr hp1 hp2 => ?_
    simp only [pot1 hG2, pot2 hG2, bin_mulI]
    refine ⟨mul_le 20 20 (by decide) (by decide) (by omega) (by omega) (by decide), mul_le 40 20 (by omega) (by omega) (by omega) (by omega) (by decide), ?_⟩
    have hsq0 : 0 ≤ 100049 * (c + 1) * (c + 1) := Int.mul_nonneg (by omega) (by omega)
    have hsq : 100049 * (c + 1) * (c + 1) ≤ 100049 * 100000 * 100000 := Int.mul_le_mul (by omega) (by omega) (by omega) (by decide)
    simp only [bin_addI, bi_intI, bin_powI, bin_modI, pot2 hG2, bin_mulI, bin_divI]
    generalize 100049 * (c + 1) * (c + 1) = sq at hsq hsq0 ⊢
    have hb : (Builtin.Int.intBits (m + sq + 41) : Int) ≤ 64 := by
      have := bits_le (x := m + sq + 41) (k := 64) (by omega) (by omega)
      omega
    refine ⟨by decide, by omega, by omega, by decide, mul_le 8 20 (by decide) (by decide) (by omega) (by omega) (by decide), ?_⟩
    generalize (m + sq + 41) ^ (3 : Int).toNat = cube
    have d1 := Int.emod_nonneg cube (show pr ≠ 0 by omega)
    have d2 := Int.emod_lt_of_pos cube (show 0 < pr by omega)
    generalize cube % pr = d at d1 d2 ⊢
    have e1 := Int.emod_nonneg d (show (10039 : Int) ≠ 0 by decide)
    have e2 := Int.emod_lt_of_pos d (show (0 : Int) < 10039 by decide)
    refine ⟨mul_le 32 32 d1 (by omega) (by omega) (by omega) (by decide), by decide, ⟨by decide, by decide +kernel⟩, hu, ?_⟩
    exact hQ _ _ (Int.emod_nonneg _ (by omega)) (Int.emod_lt_of_pos _ hu) ⟨o, m, c + 1, hG2, ho, ho2, hm, hm2, by omega, by omega⟩ ext
end
end DL
end
section
/-! D20: the pot is made; a choice; the cells. -/
namespace DL
open PySem PySem.Spec PyProof.Rows L2
local macro_rules | `(tactic| get_elem_tactic_trivial) => `(tactic| simp only [se_cst, st_cst, se_loc, st_loc, se_glo, st_glo, se_bty, st_bty, se_bin, st_bin, se_neg, st_neg, se_lis, st_lis, se_tpl, st_tpl, se_dic, st_dic, se_dic0, st_dic0, se_sub, st_sub, se_sli, st_sli, se_cal, st_cal, se_bca, st_bca, se_lrg, st_lrg, se_lco, st_lco, se_err, st_err, se_gcl, st_gcl, se_atv, st_atv, se_rev, st_rev, se_upp, st_upp, sa_nil, sps_nil, so_nil, ss_nil, sgs_nil, stt_nil, sn_nil, sa_cons, ss_cons, sgs_cons, sn_cons, stt_cons, san_1, san_2, sorr_1, sorr_2, stan_1, stan_2, stor_1, stor_2, sps_pr, so_som, se_nt, st_nt, se_And, st_And, se_Or, st_Or, se_cmp, st_cmp, se_ch2, st_ch2, se_ife, st_ife, si_iva, si_irg, si_ien, ss_exp, ss_ret, ss_retN, ss_asn, ss_par, ss_iff, ss_whl, ss_fr, ss_pas, ss_brk, ss_con, ss_nev, sg_tna, sg_ttu, sg_tsu, cR_non, cR_bool, cR_int, cR_str, sSeq, sIf, sAsg, sRet, sNext, dOp2, dVar, dCst, dCmpT, dBca, dCons, dNil, gdName, gdSub, dLst, dIfE, dCall, dLrg, List.getElem?_cons_zero, List.getElem?_cons_succ, List.set_cons_zero, List.set_cons_succ])
def N_pot : List Str := ["_law_script", "_law_place", "_law_cell", "_law_own", "_law_small"]
def m_pot : M := (.cons (.asn (.tna 2 "_law_cell") (.ife (.cmp .Lt (.loc 1 "_law_place") (.bca .len (.cons (.loc 0 "_law_script") .nil))) (.sub (.loc 0 "_law_script") (.loc 1 "_law_place")) (.bin .Add (.bin .Mult (.cst (.int 43)) (.loc 1 "_law_place")) (.cst (.int 29))))) (.cons (.asn (.tna 3 "_law_own") (.bin .Mult (.bin .Mod (.bca .int (.cons (.bca .abs (.cons (.loc 2 "_law_cell") .nil)) .nil)) (.bin .Pow (.bin .Pow (.cst (.int 10)) (.cst (.int 60))) (.cst (.int 5)))) (.bca .int (.cons (.cmp .GtE (.bca .abs (.cons (.loc 2 "_law_cell") .nil)) (.bin .Pow (.cst (.int 10)) (.cst (.int 18)))) .nil)))) (.cons (.asn (.tna 4 "_law_small") (.bin .Mod (.bca .int (.cons (.loc 2 "_law_cell") .nil)) (.cst (.int 2305843009213693951)))) (.cons (.ret (.lis (.cons (.loc 3 "_law_own") (.cons (.bin .Mod (.bca .int (.cons (.bin .Add (.bin .Add (.bin .Mult (.loc 4 "_law_small") (.cst (.int 61231))) (.bin .Mult (.bin .Mult (.cst (.int 8117)) (.loc 1 "_law_place")) (.loc 1 "_law_place"))) (.cst (.int 103))) .nil)) (.cst (.int 2305843009213693921))) (.cons (.cst (.int 0)) .nil))))) .nil))))
def N_of : List Str := ["_law_pot_here", "_law_some"]
def m_of : M := (.cons (.ret (.sub (.loc 1 "_law_some") (.cal "_law_take" spTake [] (.cons (.loc 0 "_law_pot_here") (.cons (.bca .len (.cons (.loc 1 "_law_some") .nil)) .nil))))) .nil)
def N_cells : List Str := ["_law_script", "_law_most"]
def m_cells : M := (.cons (.ret (.lrg (.bca .max (.cons (.cst (.int 1)) (.cons (.bca .min (.cons (.loc 1 "_law_most") (.cons (.bca .len (.cons (.loc 0 "_law_script") .nil)) .nil))) .nil))))) .nil)
/-- all that was there is there -/
def Kp (G G' : Gp) : Prop := ∀ a o, G a = some o → G' a = some o
theorem Kp.refl {G : Gp} : Kp G G := fun _ _ h => h
theorem Kp.trans {G G1 G2 : Gp} (a : Kp G G1) (b : Kp G1 G2) : Kp G G2 := fun _ _ h => b _ _ (a _ _ h)
theorem Kp.new {G : Gp} {p : Addr} {o : OD} (h : G p = none) : Kp G (up G p o) := fun a x hx => by
  rw [up_ne]; exact hx
  intro e; subst e; rw [h] at hx; cases hx
theorem Kp.ext {G G' : Gp} {p : Addr} (h : Kp G G') : Ext p G G' := fun a o _ z => h a o z
theorem Ext.refl {G : Gp} {p : Addr} : Ext p G G := fun _ _ _ h => h
theorem Ext.trans {G G1 G2 : Gp} {p : Addr} (a : Ext p G G1) (b : Ext p G1 G2) : Ext p G G2 := fun _ _ n h => b _ _ n (a _ _ n h)
theorem Pot.kp {n : Nat} {G G' : Gp} {p : Addr} (h : Pot n G p) (k : Kp G G') : Pot n G' p := let ⟨o, m, c, e, r⟩ := h; ⟨o, m, c, k _ _ e, r⟩
theorem Pot.mono {n n' : Nat} {G : Gp} {p : Addr} (h : Pot n G p) (k : n ≤ n') : Pot n' G p := let ⟨o, m, c, e, a, b, c1, d, e1, f⟩ := h; ⟨o, m, c, e, a, b, c1, d, e1, by omega⟩
def spPot : SpD := fun ds G Q _ => ∃ (ns : List Int) (i : Int), ds = [.fls (ns.map .int), .int i] ∧ 0 ≤ i ∧ i < 1000 ∧ ∀ (q : Addr) (G' : Gp), G q = none → Pot 0 G' q → Kp G G' → Q (.ref q) G'
/-- one of a list that is not empty -/
def spOf : SpD := fun ds G Q _ => ∃ (p r : Addr) (n : Nat) (xs : List D), ds = [.ref p, .ref r] ∧ Pot n G p ∧ n < 100000 ∧ p ≠ r ∧ G r = some (.lst xs) ∧ xs ≠ [] ∧ xs.length < 1000000 ∧ ∀ (x : D) (G' : Gp), x ∈ xs → Pot (n + 1) G' p → Ext p G G' → Q x G'
def spCells : SpD := fun ds G Q _ => ∃ (ns : List Int) (k : Int), ds = [.fls (ns.map .int), .int k] ∧ 1 ≤ k ∧ k < 1000 ∧ ∀ (j : Nat) (q : Addr), 1 ≤ j → (j : Int) ≤ k → G q = none → Q (.ref q) (up G q (.lst ((List.range j).map fun i => .int (i : Nat))))
section
variable {K : PySem.W.Frag} {E : Addr → D → Gp → Prop}
theorem ltI {i j : Int} {G : Gp} {k : Bool → Prop} : cmpR .Lt (.int i) (.int j) G k = k (decide (i < j)) := rfl
theorem gtI {i j : Int} {G : Gp} {k : Bool → Prop} : cmpR .Gt (.int i) (.int j) G k = k (decide (j < i)) := rfl
theorem geI {i j : Int} {G : Gp} {k : Bool → Prop} : cmpR .GtE (.int i) (.int j) G k = k (decide (j ≤ i)) := rfl
theorem geE {i j : Int} {G : Gp} {Q : KD} : DL.cmp .GtE (.int i) (.int j) G Q = Q (.bl (decide (j ≤ i))) G := rfl
theorem lenF {ds : List D} {G : Gp} {Q : KD} : biR K .len [.fls ds] G Q = Q (.int ds.length) G := rfl
theorem pot_hp (ds : List D) (G : Gp) (Q : D → Gp → Prop) (h : spPot ds G Q E) : (sem K m_pot).s { nx := fun _ G' => Q .non G', rt := Q, ex := fun C d _ G' => E C d G' } (startD N_pot ds) G := by
  obtain ⟨ns, i, rfl, hi, hi2, hQ⟩ := h
  have st : startD N_pot [.fls (ns.map .int), .int i] = [some (.fls (ns.map .int)), some (.int i), none, none, none] := rfl
  rw [st]
  unfold m_pot
  get_elem_tactic_trivial
  simp only [lenF, ltI]
  have key : ∀ k : KD, (∀ cell : Int, k (.int cell) G) → (if decide (i < ((List.map D.int ns).length : Int)) = true then subD (.fls (List.map D.int ns)) (.int i) G k else DL.bin .Mult (.int 43) (.int i) G fun x G1 => DL.bin .Add x (.int 29) G1 k) := fun k hk => by
    by_cases hl : i < ((List.map D.int ns).length : Int)
    · rw [if_pos (decide_eq_true hl)]
      rw [List.length_map] at hl
      have hj : i.toNat < ns.length := by omega
      have e : atI (ns.map D.int) i = some (.int ns[i.toNat]) := by
        have := atI_nat (xs := ns.map D.int) (j := i.toNat) (v := .int ns[i.toNat]) (by rw [List.getElem?_map, List.getElem?_eq_getElem hj]; rfl)
        rwa [show ((i.toNat : Nat) : Int) = i by omega] at this
      show optD (atI (ns.map D.int) i) (fun d => k d G)
      rw [e]
      exact hk _
    · rw [if_neg (fun z => hl (of_decide_eq_true z))]
      simp only [bin_mulI, bin_addI]
      exact ⟨mul_le 8 12 (by decide) (by decide) (by omega) (by omega) (by decide), hk _⟩
  refine key _ fun cell => ?_
  simp only [bi_absI, bi_intI, bin_powI, bin_modI, geE, bi_intB, bin_mulI, bin_addI]
  have ha : 0 ≤ (if cell < 0 then -cell else cell) := by split <;> omega
  generalize (if cell < 0 then -cell else cell) = ac at ha ⊢
  refine ⟨by decide, by decide +kernel, by decide, by decide +kernel, by decide +kernel, by decide, by decide +kernel, ?_⟩
  have e300 : ((10 ^ (60 : Int).toNat) ^ (5 : Int).toNat : Int) = 10 ^ 300 := by decide +kernel
  rw [e300]
  have o1 := Int.emod_nonneg ac (show (10 ^ 300 : Int) ≠ 0 by decide +kernel)
  have o2 := Int.emod_lt_of_pos ac (show (0 : Int) < 10 ^ 300 by decide +kernel)
  generalize ac % 10 ^ 300 = own at o1 o2 ⊢
  generalize decide (10 ^ (18 : Int).toNat ≤ ac) = bb
  have hb1 : (0 : Int) ≤ (if bb = true then 1 else 0) := by split <;> decide
  have hb2 : (if bb = true then (1 : Int) else 0) ≤ 1 := by split <;> decide
  generalize (if bb = true then (1 : Int) else 0) = fl at hb1 hb2 ⊢
  have s1 := Int.emod_nonneg cell (show (2305843009213693951 : Int) ≠ 0 by decide)
  have s2 := Int.emod_lt_of_pos cell (show (0 : Int) < 2305843009213693951 by decide)
  generalize cell % 2305843009213693951 = sm at s1 s2 ⊢
  have big : (10 ^ 300 : Int) < 2 ^ 1000 := by decide +kernel
  have i1 : (8117 * i) < 2 ^ 23 := by omega
  have i2 : 0 ≤ 8117 * i := by omega
  refine ⟨mul_le 1000 1 o1 (Int.lt_trans o2 big) hb1 (by omega) (by decide), by decide, mul_le 61 16 s1 (by omega) (by decide) (by decide) (by decide), mul_le 13 10 (by decide) (by decide) hi (by omega) (by decide), mul_le 23 10 i2 i1 hi (by omega) (by decide), by decide, by show 3 ≤ sizeLine; rw [sizeLine_eq]; omega, fun q hq => ?_⟩
  have m1 := Int.emod_nonneg (sm * 61231 + 8117 * i * i + 103) (show (2305843009213693921 : Int) ≠ 0 by decide)
  have m2 := Int.emod_lt_of_pos (sm * 61231 + 8117 * i * i + 103) (show (0 : Int) < 2305843009213693921 by decide)
  have of0 : 0 ≤ own * fl := Int.mul_nonneg o1 hb1
  have of1 : own * fl ≤ own := by
    have : own * fl ≤ own * 1 := Int.mul_le_mul_of_nonneg_left hb2 o1
    simpa using this
  exact hQ q _ hq ⟨own * fl, _, 0, up_same, of0, Int.lt_of_le_of_lt of1 o2, m1, Int.lt_of_lt_of_le m2 (by decide), by decide, by decide⟩ (Kp.new hq)
theorem lenR {r : Addr} {xs : List D} {G : Gp} {Q : KD} (h : G r = some (.lst xs)) : biR K .len [.ref r] G Q = Q (.int xs.length) G := by simp only [biR, lenD, h]
theorem of_hp (ds : List D) (G : Gp) (Q : D → Gp → Prop) (h : spOf ds G Q E) : (sem K m_of).s { nx := fun _ G' => Q .non G', rt := Q, ex := fun C d _ G' => E C d G' } (startD N_of ds) G := by
  obtain ⟨p, r, n, xs, rfl, hP, hn, hpr, hr, hne, hl, hQ⟩ := h
  have st : startD N_of [.ref p, .ref r] = [some (.ref p), some (.ref r)] := rfl
  rw [st]
  unfold m_of
  get_elem_tactic_trivial
  simp only [lenR hr, List.append_nil]
  refine ⟨p, xs.length, n, rfl, hP, hn, ?_, by omega, fun v G' h1 h2 hP' hx => ?_⟩
  · have := List.length_pos_iff.mpr hne
    omega
  have hr' := hx r _ (Ne.symm hpr) hr
  simp only [subD, hr']
  have hj : v.toNat < xs.length := by omega
  have e : atI xs v = some xs[v.toNat] := by
    have := atI_nat (xs := xs) (j := v.toNat) (v := xs[v.toNat]) (List.getElem?_eq_getElem hj)
    rwa [show ((v.toNat : Nat) : Int) = v by omega] at this
  show optD (atI xs v) (fun d => Q d G')
  rw [e]
  exact hQ _ _ (List.getElem_mem hj) hP' hx
theorem min2 {i j : Int} {G : Gp} {Q : KD} : biR K .min [.int i, .int j] G Q = Q (.int (if j < i then j else i)) G := rfl
theorem max2 {i j : Int} {G : Gp} {Q : KD} : biR K .max [.int i, .int j] G Q = Q (.int (if j > i then j else i)) G := rfl
theorem cells_hp (ds : List D) (G : Gp) (Q : D → Gp → Prop) (h : spCells ds G Q E) : (sem K m_cells).s { nx := fun _ G' => Q .non G', rt := Q, ex := fun C d _ G' => E C d G' } (startD N_cells ds) G := by
  obtain ⟨ns, k, rfl, hk, hk2, hQ⟩ := h
  have st : startD N_cells [.fls (ns.map .int), .int k] = [some (.fls (ns.map .int)), some (.int k)] := rfl
  rw [st]
  unfold m_cells
  get_elem_tactic_trivial
  simp only [lenF, min2, max2]
  have e : ∃ j : Nat, 1 ≤ j ∧ (j : Int) ≤ k ∧ (if (if ((List.map D.int ns).length : Int) < k then ((List.map D.int ns).length : Int) else k) > 1 then (if ((List.map D.int ns).length : Int) < k then ((List.map D.int ns).length : Int) else k) else 1) = (j : Int) := by
    generalize ((List.map D.int ns).length : Int) = l
    refine ⟨(if (if l < k then l else k) > 1 then (if l < k then l else k) else 1).toNat, ?_, ?_, ?_⟩ <;> (repeat' split) <;> omega
  obtain ⟨j, j1, j2, e⟩ := e
  rw [e]
  exact ⟨RgOk.of_le (by decide) (by omega) (by decide) (by omega), fun q hq => hQ j q j1 j2 hq⟩
end
end DL
end
section
/-! D21: values of any depth beside a pot. -/
namespace DL
open PySem PySem.Spec PyProof.Rows L2
/-- the store without the pot -/
def Gm (p : Addr) (G : Gp) : Gp := fun a => if a = p then none else G a
def Val (p : Addr) (G : Gp) (d : D) (q : PyData) : Prop := ∃ n, deep (Gm p G) n d = some q
def ValL (p : Addr) (G : Gp) : List D → List PyData → Prop
  | [], qs => qs = []
  | d :: ds, qs => ∃ q r, qs = q :: r ∧ Val p G d q ∧ ValL p G ds r
theorem Gm_ne {p a : Addr} {G : Gp} (h : a ≠ p) : Gm p G a = G a := if_neg h
theorem Gm_kp {p : Addr} {G : Gp} : Kp (Gm p G) G := fun a o h => by
  by_cases e : a = p
  · unfold Gm at h; rw [if_pos e] at h; cases h
  · rwa [Gm_ne e] at h
theorem Gm_ext {p : Addr} {G G' : Gp} (h : Ext p G G') : Kp (Gm p G) (Gm p G') := fun a o z => by
  by_cases e : a = p
  · unfold Gm at z; rw [if_pos e] at z; cases z
  · rw [Gm_ne e] at z ⊢; exact h a o e z
theorem mapM_mono {α β : Type} {f g : α → Option β} (h : ∀ a b, f a = some b → g a = some b) : ∀ {xs : List α} {ys : List β}, xs.mapM f = some ys → xs.mapM g = some ys
  | [], ys, e => by simpa using e
  | a :: xs, ys, e => by
    rw [List.mapM_cons] at e ⊢
    cases e1 : f a with
    | none => rw [e1] at e; cases e
    | some b =>
      rw [e1] at e
      cases e2 : xs.mapM f with
      | none => rw [e2] at e; cases e
      | some bs =>
        rw [e2] at e
        rw [h a b e1, mapM_mono h e2]
        exact e
theorem map_mono {α β : Type} {o o' : Option α} {f : α → β} {y : β} (h : ∀ a, o = some a → o' = some a) (e : o.map f = some y) : o'.map f = some y := by
  cases o with
  | none => cases e
  | some a => rw [h a rfl]; exact e
theorem deep_mono {G G' : Gp} (k : Kp G G') : ∀ {n : Nat} {d : D} {q : PyData}, deep G n d = some q → deep G' n d = some q
  | 0, _, _, h => by simp [deep] at h
  | n + 1, .non, _, h => h
  | n + 1, .bl _, _, h => h
  | n + 1, .int _, _, h => h
  | n + 1, .str _, _, h => h
  | n + 1, .ty _, _, h => by simp [deep] at h
  | n + 1, .fls _, _, h => by simp [deep] at h
  | n + 1, .exc _ _, _, h => by simp [deep] at h
  | n + 1, .tup ds, q, h => by
    simp only [deep] at h ⊢
    exact map_mono (fun a e => mapM_mono (fun _ _ z => deep_mono k z) e) h
  | n + 1, .ref a, q, h => by
    simp only [deep] at h ⊢
    cases e : G a with
    | none => rw [e] at h; simp at h
    | some o =>
      rw [e] at h
      rw [k a o e]
      cases o with
      | lst xs => exact map_mono (fun a e => mapM_mono (fun _ _ z => deep_mono k z) e) h
      | dk kvs => exact map_mono (fun a e => mapM_mono (fun _ _ z => map_mono (fun _ z => deep_mono k z) z) e) h
      | _ => simp at h
theorem deep_up {G : Gp} : ∀ {n m : Nat} {d : D} {q : PyData}, n ≤ m → deep G n d = some q → deep G m d = some q
  | 0, _, _, _, _, h => by simp [deep] at h
  | n + 1, 0, _, _, l, h => absurd l (by omega)
  | n + 1, m + 1, .non, _, l, h => h
  | n + 1, m + 1, .bl _, _, l, h => h
  | n + 1, m + 1, .int _, _, l, h => h
  | n + 1, m + 1, .str _, _, l, h => h
  | n + 1, m + 1, .ty _, _, l, h => by simp [deep] at h
  | n + 1, m + 1, .fls _, _, l, h => by simp [deep] at h
  | n + 1, m + 1, .exc _ _, _, l, h => by simp [deep] at h
  | n + 1, m + 1, .tup ds, q, l, h => by
    simp only [deep] at h ⊢
    exact map_mono (fun a e => mapM_mono (fun _ _ z => deep_up (show n ≤ m by omega) z) e) h
  | n + 1, m + 1, .ref a, q, l, h => by
    simp only [deep] at h ⊢
    cases e : G a with
    | none => rw [e] at h; simp at h
    | some o =>
      rw [e] at h
      cases o with
      | lst xs => exact map_mono (fun a e => mapM_mono (fun _ _ z => deep_up (show n ≤ m by omega) z) e) h
      | dk kvs => exact map_mono (fun a e => mapM_mono (fun _ _ z => map_mono (fun _ z => deep_up (show n ≤ m by omega) z) z) e) h
      | _ => simp at h
section
variable {p r : Addr} {G G' : Gp} {d : D} {q : PyData} {ds : List D} {qs : List PyData}
theorem Val.ext (k : Ext p G G') (h : Val p G d q) : Val p G' d q := let ⟨n, e⟩ := h; ⟨n, deep_mono (Gm_ext k) e⟩
theorem Val.kp (k : Kp G G') (h : Val p G d q) : Val p G' d q := h.ext k.ext
theorem ValL.ext (k : Ext p G G') : ∀ {ds : List D} {qs : List PyData}, ValL p G ds qs → ValL p G' ds qs
  | [], _, h => h
  | _ :: _, _, ⟨q, r, e, h1, h2⟩ => ⟨q, r, e, h1.ext k, ValL.ext k h2⟩
theorem Val.deep (h : Val p G d q) : ∃ n, deep G n d = some q := let ⟨n, e⟩ := h; ⟨n, deep_mono Gm_kp e⟩
theorem val_non : Val p G .non .none := ⟨1, rfl⟩
theorem val_bl {b : Bool} : Val p G (.bl b) (.bool b) := ⟨1, rfl⟩
theorem val_int {i : Int} : Val p G (.int i) (.int i) := ⟨1, rfl⟩
theorem val_str {z : Str} : Val p G (.str z) (.str z) := ⟨1, rfl⟩
theorem ValL.all : ∀ {ds : List D} {qs : List PyData}, ValL p G ds qs → ∃ n, ds.mapM (DL.deep (Gm p G) n) = some qs
  | [], _, h => ⟨0, by rw [h]; rfl⟩
  | d :: ds, _, ⟨q, r, e, ⟨n, h1⟩, h2⟩ => by
    obtain ⟨m, h2⟩ := ValL.all h2
    refine ⟨max n m, ?_⟩
    rw [List.mapM_cons, deep_up (Nat.le_max_left n m) h1, mapM_mono (fun _ _ z => deep_up (Nat.le_max_right n m) z) h2, e]
    rfl
theorem val_tup (h : ValL p G ds qs) : Val p G (.tup ds) (.tuple qs) := by
  obtain ⟨n, e⟩ := h.all
  refine ⟨n + 1, ?_⟩
  simp only [DL.deep, e]; rfl
theorem val_lst (hp : r ≠ p) (hr : G r = some (.lst ds)) (h : ValL p G ds qs) : Val p G (.ref r) (.list qs) := by
  obtain ⟨n, e⟩ := h.all
  refine ⟨n + 1, ?_⟩
  simp only [DL.deep, Gm_ne hp, hr, e]; rfl
theorem val_dk0 (hp : r ≠ p) (hr : G r = some (.dk [])) : Val p G (.ref r) (.dict []) := ⟨1, by simp only [DL.deep, Gm_ne hp, hr]; rfl⟩
theorem val_dk1 {k : Key} (hp : r ≠ p) (hr : G r = some (.dk [(k, d)])) (h : Val p G d q) : Val p G (.ref r) (.dict [(kPy k, q)]) := by
  obtain ⟨n, e⟩ := h
  refine ⟨n + 1, ?_⟩
  simp only [DL.deep, Gm_ne hp, hr, List.mapM_cons, e]; rfl
theorem vnil : ValL p G [] [] := rfl
theorem vcons (h : Val p G d q) (t : ValL p G ds qs) : ValL p G (d :: ds) (q :: qs) := ⟨q, qs, rfl, h, t⟩
theorem ValL.append : ∀ {ds es : List D} {qs rs : List PyData}, ValL p G ds qs → ValL p G es rs → ValL p G (ds ++ es) (qs ++ rs)
  | [], _, _, _, h, t => by cases h; exact t
  | _ :: _, _, _, _, ⟨q, r, e, h1, h2⟩, t => by subst e; exact ⟨q, r ++ _, rfl, h1, ValL.append h2 t⟩
theorem ValL.mem : ∀ {ds : List D} {qs : List PyData}, ValL p G ds qs → ∀ {d : D}, d ∈ ds → ∃ q ∈ qs, Val p G d q
  | [], _, _, _, h => by cases h
  | _ :: _, _, ⟨q, r, e, h1, h2⟩, d, h => by
    subst e
    rcases List.mem_cons.mp h with rfl | h
    · exact ⟨q, List.mem_cons_self .., h1⟩
    · obtain ⟨q', m, v⟩ := ValL.mem h2 h
      exact ⟨q', List.mem_cons_of_mem _ m, v⟩
end
/-! ### what is new only -/
def New (G G' : Gp) : Gp := fun a => match G a with
  | none => G' a
  | some _ => none
def Vl (F : Gp) (d : D) (q : PyData) : Prop := ∃ n, deep F n d = some q
def VlL (F : Gp) : List D → List PyData → Prop
  | [], qs => qs = []
  | d :: ds, qs => ∃ q r, qs = q :: r ∧ Vl F d q ∧ VlL F ds r
theorem New_at {G G' : Gp} {a : Addr} {o : OD} (h : G a = none) (e : G' a = some o) : New G G' a = some o := by unfold New; rw [h]; exact e
theorem New_of {G G' : Gp} {a : Addr} {o : OD} (e : New G G' a = some o) : G a = none ∧ G' a = some o := by
  unfold New at e
  cases h : G a with
  | none => rw [h] at e; exact ⟨rfl, e⟩
  | some x => rw [h] at e; cases e
section
variable {F F' G G' : Gp} {d : D} {q : PyData} {ds : List D} {qs : List PyData} {p r : Addr}
theorem Vl.kp (k : Kp F F') (h : Vl F d q) : Vl F' d q := let ⟨n, e⟩ := h; ⟨n, deep_mono k e⟩
theorem Vl.val (hp : G p ≠ none) (h : Vl (New G G') d q) : Val p G' d q := Vl.kp (F' := Gm p G') (fun a o e => by
  obtain ⟨e1, e2⟩ := New_of e
  rw [Gm_ne (fun z => hp (by rw [← z]; exact e1))]; exact e2) h
theorem VlL.all : ∀ {ds : List D} {qs : List PyData}, VlL F ds qs → ∃ n, ds.mapM (DL.deep F n) = some qs
  | [], _, h => ⟨0, by rw [h]; rfl⟩
  | d :: ds, _, ⟨q, r, e, ⟨n, h1⟩, h2⟩ => by
    obtain ⟨m, h2⟩ := VlL.all h2
    refine ⟨max n m, ?_⟩
    rw [List.mapM_cons, deep_up (Nat.le_max_left n m) h1, mapM_mono (fun _ _ z => deep_up (Nat.le_max_right n m) z) h2, e]
    rfl
theorem vl_non : Vl F .non .none := ⟨1, rfl⟩
theorem vl_bl {b : Bool} : Vl F (.bl b) (.bool b) := ⟨1, rfl⟩
theorem vl_int {i : Int} : Vl F (.int i) (.int i) := ⟨1, rfl⟩
theorem vl_str {z : Str} : Vl F (.str z) (.str z) := ⟨1, rfl⟩
theorem vl_tup (h : VlL F ds qs) : Vl F (.tup ds) (.tuple qs) := by
  obtain ⟨n, e⟩ := h.all
  refine ⟨n + 1, ?_⟩
  simp only [DL.deep, e]; rfl
theorem vl_lst (hr : F r = some (.lst ds)) (h : VlL F ds qs) : Vl F (.ref r) (.list qs) := by
  obtain ⟨n, e⟩ := h.all
  refine ⟨n + 1, ?_⟩
  simp only [DL.deep, hr, e]; rfl
theorem vl_dk0 (hr : F r = some (.dk [])) : Vl F (.ref r) (.dict []) := ⟨1, by simp only [DL.deep, hr]; rfl⟩
theorem vl_dk1 {k : Key} (hr : F r = some (.dk [(k, d)])) (h : Vl F d q) : Vl F (.ref r) (.dict [(kPy k, q)]) := by
  obtain ⟨n, e⟩ := h
  refine ⟨n + 1, ?_⟩
  simp only [DL.deep, hr, List.mapM_cons, e]; rfl
theorem lnil : VlL F [] [] := rfl
theorem lcons (h : Vl F d q) (t : VlL F ds qs) : VlL F (d :: ds) (q :: qs) := ⟨q, qs, rfl, h, t⟩
theorem VlL.mem : ∀ {ds : List D} {qs : List PyData}, VlL F ds qs → ∀ {d : D}, d ∈ ds → ∃ q ∈ qs, Vl F d q
  | [], _, _, _, h => by cases h
  | _ :: _, _, ⟨q, r, e, h1, h2⟩, d, h => by
    subst e
    rcases List.mem_cons.mp h with rfl | h
    · exact ⟨q, List.mem_cons_self .., h1⟩
    · obtain ⟨q', m, v⟩ := VlL.mem h2 h
      exact ⟨q', List.mem_cons_of_mem _ m, v⟩
end
end DL
end
section
/-! D22: loops and comprehensions by what holds at each turn. -/
namespace DL
open PySem PySem.Spec PyProof.Rows L2
/-- for: J i ahead of turn i -/
theorem for_inv {ok : Gp → Prop} {g : TGD} {tb : TSD} {D : EndsD} {J : Nat → SD → Gp → Prop} : ∀ (xs : List DL.D) (σ : SD) (G : Gp) (b : Nat), (∀ i σ G, J i σ G → ok G) → J b σ G →
    (∀ i x, xs[i]? = some x → ∀ σ G (next : SD → Gp → Prop), J (b + i) σ G → (∀ σ' G', J (b + i + 1) σ' G' → next σ' G') → g x σ G (fun σ1 G1 => tb { D with nx := next, ct := next, bk := D.nx } σ1 G1) D.ex) →
    (∀ σ G, J (b + xs.length) σ G → D.nx σ G) → loopD ok g tb D xs σ G
  | [], σ, G, b, ho, h0, _, hd => ⟨ho _ _ _ h0, hd σ G h0⟩
  | x :: xs, σ, G, b, ho, h0, hs, hd => ⟨ho _ _ _ h0, hs 0 x rfl σ G _ h0 fun σ' G' h' => for_inv xs σ' G' (b + 1) ho h' (fun i y hy σ G next hJ hn => hs (i + 1) y (by simpa using hy) σ G next (by rw [show b + (i + 1) = b + 1 + i by omega]; exact hJ) (by rw [show b + (i + 1) + 1 = b + 1 + i + 1 by omega]; exact hn))
      (by rw [show b + 1 + xs.length = b + (x :: xs).length by rw [List.length_cons]; omega]; exact hd)⟩
/-- [f x for x in xs], f without a change of the store -/
theorem lc_pure {ok : Gp → Prop} {i : Nat} {te : TED} {σ : SD} {p : Addr} {f : D → D} : ∀ (xs acc : List D) (G : Gp) (k : Gp → Prop), (∀ G, ok G) → (∀ x ∈ xs, ∀ G (Q : KD), Q (f x) G → te (σ.set i (some x)) G Q noE) → G p = some (.lst acc) → acc.length + xs.length ≤ sizeLine →
    (∀ G', G' p = some (.lst (acc ++ xs.map f)) → (∀ a, a ≠ p → G' a = G a) → k G') → lcLoop ok (.one i) dYes te σ p xs G k
  | [], acc, G, k, ho, _, hG, _, hk => ⟨ho G, hk G (by simpa using hG) fun _ _ => rfl⟩
  | x :: xs, acc, G, k, ho, hf, hG, hl, hk => by
    refine ⟨ho G, ?_⟩
    simp only [ctD, dYes, if_true]
    refine hf x (List.mem_cons_self ..) G _ (lsM_lst hG ⟨?_, ?_⟩)
    · rw [List.length_cons] at hl; omega
    · refine lc_pure xs (acc ++ [f x]) _ k ho (fun y hy => hf y (List.mem_cons_of_mem _ hy)) up_same (by rw [List.length_append, List.length_cons, List.length_nil]; rw [List.length_cons] at hl; omega) fun G' h1 h2 => hk G' (by rw [h1, List.map_cons, List.append_assoc]; rfl) fun a ha => by rw [h2 a ha, up_ne ha]
/-- [e for x in xs]: J holds all along, P of each item -/
theorem lc_gen {ok : Gp → Prop} {i : Nat} {te : TED} {σ : SD} {p : Addr} {J : Gp → Prop} {P : D → Prop} : ∀ (xs acc : List D) (G : Gp) (k : Gp → Prop), (∀ G, J G → ok G) → (∀ G o, J G → J (up G p o)) → J G →
    (∀ x ∈ xs, ∀ G (Q : KD), J G → G p ≠ none → (∀ y G', P y → J G' → G' p = G p → Q y G') → te (σ.set i (some x)) G Q noE) → G p = some (.lst acc) → acc.length + xs.length ≤ sizeLine →
    (∀ G' ys, ys.length = xs.length → (∀ y ∈ ys, P y) → J G' → G' p = some (.lst (acc ++ ys)) → k G') → lcLoop ok (.one i) dYes te σ p xs G k
  | [], acc, G, k, ho, hu, hJ, _, hG, _, hk => ⟨ho G hJ, hk G [] rfl (fun _ h => nomatch h) hJ (by simpa using hG)⟩
  | x :: xs, acc, G, k, ho, hu, hJ, hf, hG, hl, hk => by
    refine ⟨ho G hJ, ?_⟩
    simp only [ctD, dYes, if_true]
    refine hf x (List.mem_cons_self ..) G _ hJ (by rw [hG]; exact fun z => nomatch z) fun y G' hy hJ' hp => lsM_lst (hp.trans hG) ⟨?_, ?_⟩
    · rw [List.length_cons] at hl; omega
    · refine lc_gen xs (acc ++ [y]) _ k ho hu (hu G' _ hJ') (fun z hz => hf z (List.mem_cons_of_mem _ hz)) up_same (by rw [List.length_append, List.length_cons, List.length_nil]; rw [List.length_cons] at hl; omega) fun G'' ys h1 h2 h3 h4 => hk G'' (y :: ys) (by rw [List.length_cons, List.length_cons, h1]) (fun z hz => (List.mem_cons.mp hz).elim (fun e => by rw [e]; exact hy) (h2 z)) h3 (by rw [h4, List.append_assoc]; rfl)
end DL
end
section
/-! D23: the head's Hook: facts, defs, one more Bool. -/
namespace DL
open PySem PySem.Spec PyProof.Rows L2
def frM (n : Nat) (g : Addr → Option Obj) : PySem.W.Frag := He.frG g (cStatics :: sysModules :: He.asD g n)
abbrev AlM : Type := He.AlD × Bool
def obsM (n : Nat) (fa : List He.Fa) (fn : List He.DefD) (ex : PySem.W.Frag → Bool) (g : Addr → Option Obj) : AlM := (He.obsD fa fn (frM n g), ex (frM n g))
structure SaysM (fa : List He.Fa) (fn : List He.DefD) (ex : PySem.W.Frag → Bool) (K : PySem.W.Frag) : Prop where
  d : He.SaysD fa fn K
  more : ex K = true
def hookM (n : Nat) (fa : List He.Fa) (fn : List He.DefD) (ex : PySem.W.Frag → Bool) : PySem.W.Hook where
  α := AlM
  obs := fun s => obsM n fa fn ex s.heap.get?
  val := fun _ => (He.valD fn, true)
  says := fun _ h => ∃ K : PySem.W.Frag, K.In h ∧ SaysM fa fn ex K
  of := fun _ _ e => ⟨_, He.frG_in, congrArg (fun z : AlM => z.1) e, congrArg (fun z : AlM => z.2) e⟩
  keeps := fun _ _ _ ⟨K, hK, c⟩ k => ⟨K, PySem.W.Frag.In.keeps hK k, c⟩
theorem obsM_eq {n : Nat} {fa : List He.Fa} {fn : List He.DefD} {ex : PySem.W.Frag → Bool} {g : Addr → Option Obj} {s : Shared} (h : ∀ a, g a = s.heap.get? a) : obsM n fa fn ex g = (hookM n fa fn ex).obs s := by
  have e : g = s.heap.get? := funext h
  rw [e] <;> rfl
/-- a def of the top -/
def topD (x : Str) (st : Stmt) : He.DefD := ⟨(x, none), x, x, defArgs st, defBody st, defScope st, [], []⟩
section
variable {P : Program} {w : World} {K : PySem.W.Frag} {mg : Str → Option Value} {base : Heap} {k : Nat}
/-- a def of the top that passes the look: known by its name -/
theorem fnT {x : Str} {st : Stmt} {N ps : List Str} {sp : SpD} {f : Addr} {fd : FuncData} (m : M) (F : FunD K x x (defArgs st) (defBody st) (defScope st) [] [] f fd) (hm : mg x = some (.ref f)) (S : FnScope N ps (defScope st)) (c : chk m N (defScope st) (.ss (defBody st)) = true)
    (hsm : ∃ o, K.lookup sysModules = some o) (fn : Fn P w K mg base k m) (ar : ∀ ds G Q E, sp ds G Q E → ds.length = ps.length)
    (hp : ∀ ds G Q E, sp ds G Q E → (sem K m).s { nx := fun _ G' => Q .non G', rt := Q, ex := fun C d _ G' => E C d G' } (startD N ds) G) (hb : Binds K fd ps []) : FnG P w K mg base (k + 1) x sp [] :=
  ⟨f, fd, ps, [], [], hm, F.kp, fnM m S.nd hsm F S c fn ar hp, hb, .nil, fun _ => rfl⟩
end
end DL
end
section
namespace LK
open PySem PySem.Spec PyProof.Rows L2 DL
def top (i : Nat) : Stmt := PySem.Challenge.pw_trustsorted_k06_errors_and_what_they_kee.main.body.getD i (.Pass ⟨0, 0, 0, 0⟩)
/-! ### _law_pot -/
def N_law_pot : List Str := ["_law_script", "_law_place", "_law_cell", "_law_own", "_law_small"]
def P_law_pot : List Str := ["_law_script", "_law_place"]
def m_law_pot : M := (.cons (.asn (.tna 2 "_law_cell") (.ife (.cmp .Lt (.loc 1 "_law_place") (.bca .len (.cons (.loc 0 "_law_script") .nil))) (.sub (.loc 0 "_law_script") (.loc 1 "_law_place")) (.bin .Add (.bin .Mult (.cst (.int 43)) (.loc 1 "_law_place")) (.cst (.int 29))))) (.cons (.asn (.tna 3 "_law_own") (.bin .Mult (.bin .Mod (.bca .int (.cons (.bca .abs (.cons (.loc 2 "_law_cell") .nil)) .nil)) (.bin .Pow (.bin .Pow (.cst (.int 10)) (.cst (.int 60))) (.cst (.int 5)))) (.bca .int (.cons (.cmp .GtE (.bca .abs (.cons (.loc 2 "_law_cell") .nil)) (.bin .Pow (.cst (.int 10)) (.cst (.int 18)))) .nil)))) (.cons (.asn (.tna 4 "_law_small") (.bin .Mod (.bca .int (.cons (.loc 2 "_law_cell") .nil)) (.cst (.int 2305843009213693951)))) (.cons (.ret (.lis (.cons (.loc 3 "_law_own") (.cons (.bin .Mod (.bca .int (.cons (.bin .Add (.bin .Add (.bin .Mult (.loc 4 "_law_small") (.cst (.int 61231))) (.bin .Mult (.bin .Mult (.cst (.int 8117)) (.loc 1 "_law_place")) (.loc 1 "_law_place"))) (.cst (.int 103))) .nil)) (.cst (.int 2305843009213693921))) (.cons (.cst (.int 0)) .nil))))) .nil))))
theorem sc_law_pot : FnScope N_law_pot P_law_pot (defScope (top 32)) := ⟨rfl, rfl, rfl, by decide +kernel, rfl, by decide +kernel, by decide +kernel⟩
theorem ck_law_pot : chk (m_law_pot) N_law_pot (defScope (top 32)) (.ss (defBody (top 32))) = true := by kernel_rfl
/-! ### _law_take -/
def N_law_take : List Str := ["_law_pot_here", "_law_upto", "_law_digit", "_law_prime", "_law_mixed"]
def P_law_take : List Str := ["_law_pot_here", "_law_upto"]
def m_law_take : M := (.cons (.iff (.cmp .Gt (.sub (.loc 0 "_law_pot_here") (.cst (.int 0))) (.cst (.int 0))) (.cons (.asn (.tna 2 "_law_digit") (.bin .Mod (.bca .int (.cons (.sub (.loc 0 "_law_pot_here") (.cst (.int 0))) .nil)) (.loc 1 "_law_upto"))) (.cons (.asn (.tsu (.loc 0 "_law_pot_here") (.cst (.int 0))) (.bin .FloorDiv (.sub (.loc 0 "_law_pot_here") (.cst (.int 0))) (.loc 1 "_law_upto"))) (.cons (.ret (.loc 2 "_law_digit")) .nil))) .nil) (.cons (.asn (.tsu (.loc 0 "_law_pot_here") (.cst (.int 2))) (.bin .Add (.sub (.loc 0 "_law_pot_here") (.cst (.int 2))) (.cst (.int 1)))) (.cons (.asn (.tna 3 "_law_prime") (.sub (.lis (.cons (.cst (.int 2147483647)) (.cons (.cst (.int 2147483629)) (.cons (.cst (.int 2147483587)) (.cons (.cst (.int 2147483579)) (.cons (.cst (.int 2147483563)) .nil)))))) (.bin .Mod (.bca .int (.cons (.sub (.loc 0 "_law_pot_here") (.cst (.int 2))) .nil)) (.cst (.int 5))))) (.cons (.asn (.tna 4 "_law_mixed") (.bin .Mod (.bca .int (.cons (.bin .Pow (.bca .int (.cons (.bin .Add (.bin .Add (.sub (.loc 0 "_law_pot_here") (.cst (.int 1))) (.bin .Mult (.bin .Mult (.cst (.int 100049)) (.sub (.loc 0 "_law_pot_here") (.cst (.int 2)))) (.sub (.loc 0 "_law_pot_here") (.cst (.int 2))))) (.cst (.int 41))) .nil)) (.cst (.int 3))) .nil)) (.loc 3 "_law_prime"))) (.cons (.asn (.tna 4 "_law_mixed") (.bin .Mod (.bca .int (.cons (.bin .Mult (.loc 4 "_law_mixed") (.bin .Add (.bin .Mod (.bca .int (.cons (.loc 4 "_law_mixed") .nil)) (.cst (.int 10039))) (.bin .Mult (.cst (.int 91)) (.sub (.loc 0 "_law_pot_here") (.cst (.int 2)))))) .nil)) (.cst (.int 2305843009213693907)))) (.cons (.ret (.bin .Mod (.bca .int (.cons (.bin .FloorDiv (.loc 4 "_law_mixed") (.cst (.int 127))) .nil)) (.loc 1 "_law_upto"))) .nil))))))
theorem sc_law_take : FnScope N_law_take P_law_take (defScope (top 33)) := ⟨rfl, rfl, rfl, by decide +kernel, rfl, by decide +kernel, by decide +kernel⟩
theorem ck_law_take : chk (m_law_take) N_law_take (defScope (top 33)) (.ss (defBody (top 33))) = true := by kernel_rfl
/-! ### _law_of -/
def N_law_of : List Str := ["_law_pot_here", "_law_some"]
def P_law_of : List Str := ["_law_pot_here", "_law_some"]
def m_law_of (sp_law_take : SpD) : M := (.cons (.ret (.sub (.loc 1 "_law_some") (.cal "_law_take" sp_law_take [] (.cons (.loc 0 "_law_pot_here") (.cons (.bca .len (.cons (.loc 1 "_law_some") .nil)) .nil))))) .nil)
theorem sc_law_of : FnScope N_law_of P_law_of (defScope (top 34)) := ⟨rfl, rfl, rfl, by decide +kernel, rfl, by decide +kernel, by decide +kernel⟩
theorem ck_law_of (sp_law_take : SpD) : chk (m_law_of sp_law_take) N_law_of (defScope (top 34)) (.ss (defBody (top 34))) = true := by kernel_rfl
/-! ### _law_cells -/
def N_law_cells : List Str := ["_law_script", "_law_most"]
def P_law_cells : List Str := ["_law_script", "_law_most"]
def m_law_cells : M := (.cons (.ret (.lrg (.bca .max (.cons (.cst (.int 1)) (.cons (.bca .min (.cons (.loc 1 "_law_most") (.cons (.bca .len (.cons (.loc 0 "_law_script") .nil)) .nil))) .nil))))) .nil)
theorem sc_law_cells : FnScope N_law_cells P_law_cells (defScope (top 35)) := ⟨rfl, rfl, rfl, by decide +kernel, rfl, by decide +kernel, by decide +kernel⟩
theorem ck_law_cells : chk (m_law_cells) N_law_cells (defScope (top 35)) (.ss (defBody (top 35))) = true := by kernel_rfl
/-! ### _law_odd -/
def N_law_odd : List Str := ["_law_pot_here", "_law_some"]
def P_law_odd : List Str := ["_law_pot_here"]
def m_law_odd (sp_law_of : SpD) : M := (.cons (.asn (.tna 1 "_law_some") (.lis (.cons (.cst .none) (.cons (.cst (.bool true)) (.cons (.cst (.bool false)) (.cons (.cst (.int 0)) (.cons (.cst (.int 1)) (.cons (.neg (.cst (.int 1))) (.cons (.cst (.int 2)) (.cons (.cst (.str "")) (.cons (.cst (.str "a")) (.cons (.cst (.str "known")) (.cons (.cst (.str "before")) (.cons (.cst (.str "carries")) (.cons (.tpl .nil) (.cons (.lis .nil) (.cons .dic0 (.cons (.tpl (.cons (.tpl .nil) .nil)) (.cons (.tpl (.cons (.cst (.int 0)) .nil)) (.cons (.tpl (.cons (.cst (.int 0)) (.cons (.cst (.int 1)) .nil))) .nil)))))))))))))))))))) (.cons (.asn (.tna 1 "_law_some") (.bin .Add (.loc 1 "_law_some") (.lis (.cons (.lis (.cons (.cst (.int 0)) .nil)) (.cons (.dic (.pr (.cst (.str "a")) (.cst (.int 1)) .nil)) (.cons (.cst (.int 99999)) (.cons (.cst (.str "1")) (.cons (.cst (.str "rule")) (.cons (.tpl (.cons (.cst (.str "a")) (.cons (.cst (.str "b")) .nil))) (.cons (.tpl (.cons (.cst (.str "fits")) .nil)) (.cons (.tpl (.cons (.cst .none) (.cons (.cst .none) .nil))) (.cons (.tpl (.cons (.cst (.str "a")) (.cons (.cst (.bool true)) .nil))) (.cons (.cst (.str "-")) .nil))))))))))))) (.cons (.ret (.cal "_law_of" sp_law_of [] (.cons (.loc 0 "_law_pot_here") (.cons (.loc 1 "_law_some") .nil)))) .nil)))
theorem sc_law_odd : FnScope N_law_odd P_law_odd (defScope (top 36)) := ⟨rfl, rfl, rfl, by decide +kernel, rfl, by decide +kernel, by decide +kernel⟩
theorem ck_law_odd (sp_law_of : SpD) : chk (m_law_odd sp_law_of) N_law_odd (defScope (top 36)) (.ss (defBody (top 36))) = true := by kernel_rfl
/-! ### _law_bent -/
def N_law_bent : List Str := ["_law_pot_here", "_law_value", "_law_way", "_law_at", "_law_more"]
def P_law_bent : List Str := ["_law_pot_here", "_law_value"]
def m_law_bent (sp_law_take : SpD) (sp_law_of : SpD) (sp_law_odd : SpD) (sp_law_bent : SpD) : M := (.cons (.iff (.boo .And (.cons (.bca .isi (.cons (.loc 1 "_law_value") (.cons (.bty "tuple" "tuple") .nil))) (.cons (.cmp .NotEq (.loc 1 "_law_value") (.tpl .nil)) (.cons (.cmp .Gt (.cal "_law_take" sp_law_take [] (.cons (.loc 0 "_law_pot_here") (.cons (.cst (.int 6)) .nil))) (.cst (.int 0))) .nil)))) (.cons (.par 2 "_law_way" 3 "_law_at" (.cons (.cal "_law_take" sp_law_take [] (.cons (.loc 0 "_law_pot_here") (.cons (.cst (.int 6)) .nil))) (.cons (.cal "_law_take" sp_law_take [] (.cons (.loc 0 "_law_pot_here") (.cons (.bca .len (.cons (.loc 1 "_law_value") .nil)) .nil))) .nil))) (.cons (.iff (.cmp .Lt (.loc 2 "_law_way") (.cst (.int 3))) (.cons (.ret (.bin .Add (.bin .Add (.sli (.loc 1 "_law_value") .nil (.som (.loc 3 "_law_at"))) (.tpl (.cons (.cal "_law_bent" sp_law_bent [] (.cons (.loc 0 "_law_pot_here") (.cons (.sub (.loc 1 "_law_value") (.loc 3 "_law_at")) .nil))) .nil))) (.sli (.loc 1 "_law_value") (.som (.bin .Add (.loc 3 "_law_at") (.cst (.int 1)))) .nil))) .nil) .nil) (.cons (.asn (.tna 4 "_law_more") (.lis (.cons (.bin .Add (.sli (.loc 1 "_law_value") .nil (.som (.loc 3 "_law_at"))) (.sli (.loc 1 "_law_value") (.som (.bin .Add (.loc 3 "_law_at") (.cst (.int 1)))) .nil)) (.cons (.bin .Add (.bin .Add (.sli (.loc 1 "_law_value") .nil (.som (.loc 3 "_law_at"))) (.sli (.loc 1 "_law_value") (.som (.loc 3 "_law_at")) (.som (.bin .Add (.loc 3 "_law_at") (.cst (.int 1)))))) (.sli (.loc 1 "_law_value") (.som (.loc 3 "_law_at")) .nil)) (.cons (.rev (.loc 1 "_law_value")) .nil))))) (.cons (.ret (.sub (.loc 4 "_law_more") (.bin .Sub (.loc 2 "_law_way") (.cst (.int 3))))) .nil)))) .nil) (.cons (.iff (.bca .isi (.cons (.loc 1 "_law_value") (.cons (.bty "tuple" "tuple") .nil))) (.cons (.ret (.cal "_law_of" sp_law_of [] (.cons (.loc 0 "_law_pot_here") (.cons (.lis (.cons (.bca .list (.cons (.loc 1 "_law_value") .nil)) (.cons (.tpl .nil) (.cons (.cst .none) (.cons (.bin .Add (.loc 1 "_law_value") (.tpl (.cons (.cst (.int 0)) .nil))) (.cons (.cal "_law_odd" sp_law_odd [] (.cons (.loc 0 "_law_pot_here") .nil)) .nil)))))) .nil)))) .nil) .nil) (.cons (.iff (.boo .Or (.cons (.bca .isi (.cons (.loc 1 "_law_value") (.cons (.bty "bool" "bool") .nil))) (.cons (.cmp .Is (.loc 1 "_law_value") (.cst .none)) .nil))) (.cons (.ret (.cal "_law_odd" sp_law_odd [] (.cons (.loc 0 "_law_pot_here") .nil))) .nil) .nil) (.cons (.iff (.bca .isi (.cons (.loc 1 "_law_value") (.cons (.bty "int" "int") .nil))) (.cons (.ret (.cal "_law_of" sp_law_of [] (.cons (.loc 0 "_law_pot_here") (.cons (.lis (.cons (.bin .Add (.loc 1 "_law_value") (.cst (.int 1))) (.cons (.bin .Sub (.loc 1 "_law_value") (.cst (.int 1))) (.cons (.neg (.loc 1 "_law_value")) (.cons (.cmp .Eq (.loc 1 "_law_value") (.cst (.int 1))) (.cons (.bca .str (.cons (.loc 1 "_law_value") .nil)) (.cons (.cst .none) (.cons (.tpl (.cons (.loc 1 "_law_value") .nil)) .nil)))))))) .nil)))) .nil) .nil) (.cons (.iff (.bca .isi (.cons (.loc 1 "_law_value") (.cons (.bty "str" "str") .nil))) (.cons (.ret (.cal "_law_of" sp_law_of [] (.cons (.loc 0 "_law_pot_here") (.cons (.lis (.cons (.bin .Add (.loc 1 "_law_value") (.cst (.str "a"))) (.cons (.sli (.loc 1 "_law_value") .nil (.som (.neg (.cst (.int 1))))) (.cons (.upp (.loc 1 "_law_value")) (.cons (.cst (.str "b")) (.cons (.cst (.str "known")) (.cons (.cst .none) (.cons (.lis (.cons (.loc 1 "_law_value") .nil)) .nil)))))))) .nil)))) .nil) .nil) (.cons (.ret (.cal "_law_odd" sp_law_odd [] (.cons (.loc 0 "_law_pot_here") .nil))) .nil))))))
theorem sc_law_bent : FnScope N_law_bent P_law_bent (defScope (top 37)) := ⟨rfl, rfl, rfl, by decide +kernel, rfl, by decide +kernel, by decide +kernel⟩
theorem ck_law_bent (sp_law_take : SpD) (sp_law_of : SpD) (sp_law_odd : SpD) (sp_law_bent : SpD) : chk (m_law_bent sp_law_take sp_law_of sp_law_odd sp_law_bent) N_law_bent (defScope (top 37)) (.ss (defBody (top 37))) = true := by kernel_rfl
/-! ### _law_made -/
def N_law_made : List Str := ["_law_value", "_law_found"]
def P_law_made : List Str := ["_law_value"]
def m_law_made : M := (.cons (.asn (.tna 1 "_law_found") (.lis (.cons (.err "BadHouse" (.loc 0 "_law_value")) (.cons (.err "NoRule" (.loc 0 "_law_value")) (.cons (.err "NoPass" (.loc 0 "_law_value")) .nil))))) (.cons (.asn (.tna 1 "_law_found") (.bin .Add (.loc 1 "_law_found") (.lis (.cons (.err "NotFull" (.loc 0 "_law_value")) (.cons (.err "BadName" (.loc 0 "_law_value")) (.cons (.err "BadRows" (.loc 0 "_law_value")) .nil)))))) (.cons (.asn (.tna 1 "_law_found") (.bin .Add (.loc 1 "_law_found") (.lis (.cons (.err "BadSeen" (.loc 0 "_law_value")) (.cons (.err "Unfit" (.loc 0 "_law_value")) (.cons (.err "BadTool" (.loc 0 "_law_value")) .nil)))))) (.cons (.asn (.tna 1 "_law_found") (.bin .Add (.loc 1 "_law_found") (.lis (.cons (.err "BadLoad" (.loc 0 "_law_value")) (.cons (.err "BadPromise" (.loc 0 "_law_value")) (.cons (.err "BadPromises" (.loc 0 "_law_value")) .nil)))))) (.cons (.asn (.tna 1 "_law_found") (.bin .Add (.loc 1 "_law_found") (.lis (.cons (.err "BadSigns" (.loc 0 "_law_value")) (.cons (.err "BadForms" (.loc 0 "_law_value")) (.cons (.err "OtherSigns" (.loc 0 "_law_value")) .nil)))))) (.cons (.asn (.tna 1 "_law_found") (.bin .Add (.loc 1 "_law_found") (.lis (.cons (.err "TooMany" (.loc 0 "_law_value")) (.cons (.err "BadLength" (.loc 0 "_law_value")) (.cons (.err "BadWork" (.loc 0 "_law_value")) .nil)))))) (.cons (.asn (.tna 1 "_law_found") (.bin .Add (.loc 1 "_law_found") (.lis (.cons (.err "NoFile" (.loc 0 "_law_value")) (.cons (.err "BadChanges" (.loc 0 "_law_value")) (.cons (.err "BadOffers" (.loc 0 "_law_value")) .nil)))))) (.cons (.asn (.tna 1 "_law_found") (.bin .Add (.loc 1 "_law_found") (.lis (.cons (.err "BadLine" (.loc 0 "_law_value")) (.cons (.err "NoLine" (.loc 0 "_law_value")) (.cons (.err "Needed" (.loc 0 "_law_value")) .nil)))))) (.cons (.asn (.tna 1 "_law_found") (.bin .Add (.loc 1 "_law_found") (.lis (.cons (.err "NothingToUndo" (.loc 0 "_law_value")) (.cons (.err "NothingToRedo" (.loc 0 "_law_value")) (.cons (.err "NoTrial" (.loc 0 "_law_value")) .nil)))))) (.cons (.ret (.bin .Add (.loc 1 "_law_found") (.lis (.cons (.err "BadJournal" (.loc 0 "_law_value")) (.cons (.err "BadSay" (.loc 0 "_law_value")) .nil))))) .nil))))))))))
theorem sc_law_made : FnScope N_law_made P_law_made (defScope (top 38)) := ⟨rfl, rfl, rfl, by decide +kernel, rfl, by decide +kernel, by decide +kernel⟩
theorem ck_law_made : chk (m_law_made) N_law_made (defScope (top 38)) (.ss (defBody (top 38))) = true := by kernel_rfl
/-! ### _law_marks -/
def N_law_marks : List Str := ["_law_error", "_law_found"]
def P_law_marks : List Str := ["_law_error"]
def m_law_marks : M := (.cons (.asn (.tna 1 "_law_found") (.lis (.cons (.bca .isi (.cons (.loc 0 "_law_error") (.cons (.gcl "BadHouse") .nil))) (.cons (.bca .isi (.cons (.loc 0 "_law_error") (.cons (.gcl "NoRule") .nil))) (.cons (.bca .isi (.cons (.loc 0 "_law_error") (.cons (.gcl "NoPass") .nil))) .nil))))) (.cons (.asn (.tna 1 "_law_found") (.bin .Add (.loc 1 "_law_found") (.lis (.cons (.bca .isi (.cons (.loc 0 "_law_error") (.cons (.gcl "NotFull") .nil))) (.cons (.bca .isi (.cons (.loc 0 "_law_error") (.cons (.gcl "BadName") .nil))) (.cons (.bca .isi (.cons (.loc 0 "_law_error") (.cons (.gcl "BadRows") .nil))) .nil)))))) (.cons (.asn (.tna 1 "_law_found") (.bin .Add (.loc 1 "_law_found") (.lis (.cons (.bca .isi (.cons (.loc 0 "_law_error") (.cons (.gcl "BadSeen") .nil))) (.cons (.bca .isi (.cons (.loc 0 "_law_error") (.cons (.gcl "Unfit") .nil))) (.cons (.bca .isi (.cons (.loc 0 "_law_error") (.cons (.gcl "BadTool") .nil))) .nil)))))) (.cons (.asn (.tna 1 "_law_found") (.bin .Add (.loc 1 "_law_found") (.lis (.cons (.bca .isi (.cons (.loc 0 "_law_error") (.cons (.gcl "BadLoad") .nil))) (.cons (.bca .isi (.cons (.loc 0 "_law_error") (.cons (.gcl "BadPromise") .nil))) (.cons (.bca .isi (.cons (.loc 0 "_law_error") (.cons (.gcl "BadPromises") .nil))) .nil)))))) (.cons (.asn (.tna 1 "_law_found") (.bin .Add (.loc 1 "_law_found") (.lis (.cons (.bca .isi (.cons (.loc 0 "_law_error") (.cons (.gcl "BadSigns") .nil))) (.cons (.bca .isi (.cons (.loc 0 "_law_error") (.cons (.gcl "BadForms") .nil))) (.cons (.bca .isi (.cons (.loc 0 "_law_error") (.cons (.gcl "OtherSigns") .nil))) .nil)))))) (.cons (.asn (.tna 1 "_law_found") (.bin .Add (.loc 1 "_law_found") (.lis (.cons (.bca .isi (.cons (.loc 0 "_law_error") (.cons (.gcl "TooMany") .nil))) (.cons (.bca .isi (.cons (.loc 0 "_law_error") (.cons (.gcl "BadLength") .nil))) (.cons (.bca .isi (.cons (.loc 0 "_law_error") (.cons (.gcl "BadWork") .nil))) .nil)))))) (.cons (.asn (.tna 1 "_law_found") (.bin .Add (.loc 1 "_law_found") (.lis (.cons (.bca .isi (.cons (.loc 0 "_law_error") (.cons (.gcl "NoFile") .nil))) (.cons (.bca .isi (.cons (.loc 0 "_law_error") (.cons (.gcl "BadChanges") .nil))) (.cons (.bca .isi (.cons (.loc 0 "_law_error") (.cons (.gcl "BadOffers") .nil))) .nil)))))) (.cons (.asn (.tna 1 "_law_found") (.bin .Add (.loc 1 "_law_found") (.lis (.cons (.bca .isi (.cons (.loc 0 "_law_error") (.cons (.gcl "BadLine") .nil))) (.cons (.bca .isi (.cons (.loc 0 "_law_error") (.cons (.gcl "NoLine") .nil))) (.cons (.bca .isi (.cons (.loc 0 "_law_error") (.cons (.gcl "Needed") .nil))) .nil)))))) (.cons (.asn (.tna 1 "_law_found") (.bin .Add (.loc 1 "_law_found") (.lis (.cons (.bca .isi (.cons (.loc 0 "_law_error") (.cons (.gcl "NothingToUndo") .nil))) (.cons (.bca .isi (.cons (.loc 0 "_law_error") (.cons (.gcl "NothingToRedo") .nil))) (.cons (.bca .isi (.cons (.loc 0 "_law_error") (.cons (.gcl "NoTrial") .nil))) .nil)))))) (.cons (.ret (.bin .Add (.loc 1 "_law_found") (.lis (.cons (.bca .isi (.cons (.loc 0 "_law_error") (.cons (.gcl "BadJournal") .nil))) (.cons (.bca .isi (.cons (.loc 0 "_law_error") (.cons (.gcl "BadSay") .nil))) .nil))))) .nil))))))))))
theorem sc_law_marks : FnScope N_law_marks P_law_marks (defScope (top 39)) := ⟨rfl, rfl, rfl, by decide +kernel, rfl, by decide +kernel, by decide +kernel⟩
theorem ck_law_marks : chk (m_law_marks) N_law_marks (defScope (top 39)) (.ss (defBody (top 39))) = true := by kernel_rfl
/-! ### _law_right -/
def N_law_right : List Str := ["_law_pot_here", "_law_value", "_law_made_here", "_law_at", "_law_error", "_law_base", "_law_spot"]
def P_law_right : List Str := ["_law_pot_here"]
def m_law_right (sp_law_of : SpD) (sp_law_odd : SpD) (sp_law_bent : SpD) (sp_law_made : SpD) (sp_law_marks : SpD) : M := (.cons (.asn (.tna 1 "_law_value") (.cal "_law_of" sp_law_of [] (.cons (.loc 0 "_law_pot_here") (.cons (.lis (.cons (.cal "_law_odd" sp_law_odd [] (.cons (.loc 0 "_law_pot_here") .nil)) (.cons (.cal "_law_bent" sp_law_bent [] (.cons (.loc 0 "_law_pot_here") (.cons (.tpl (.cons (.tpl (.cons (.cst (.str "a")) (.cons (.cst (.str "b")) .nil))) (.cons (.cst (.int 3)) .nil))) .nil))) (.cons (.lis (.cons (.cal "_law_odd" sp_law_odd [] (.cons (.loc 0 "_law_pot_here") .nil)) .nil)) (.cons (.dic (.pr (.cst (.str "a")) (.cal "_law_odd" sp_law_odd [] (.cons (.loc 0 "_law_pot_here") .nil)) .nil)) .nil))))) .nil)))) (.cons (.asn (.tna 2 "_law_made_here") (.cal "_law_made" sp_law_made [] (.cons (.loc 1 "_law_value") .nil))) (.cons (.fr (.ttu (.cons (.tna 3 "_law_at") (.cons (.tna 4 "_law_error") .nil))) (.ien (.loc 2 "_law_made_here")) (.cons (.iff (.boo .Or (.cons (.nt (.bca .isi (.cons (.loc 4 "_law_error") (.cons (.gcl "OrderError") .nil)))) (.cons (.nt (.bca .isi (.cons (.loc 4 "_law_error") (.cons (.bty "ValueError" "ValueError") .nil)))) .nil))) (.cons (.ret (.cst (.bool false))) .nil) .nil) (.cons (.iff (.boo .Or (.cons (.cmp .NotEq (.bca .repr (.cons (.atv (.loc 4 "_law_error")) .nil)) (.bca .repr (.cons (.loc 1 "_law_value") .nil))) (.cons (.cmp .NotEq (.cal "_law_marks" sp_law_marks [] (.cons (.loc 4 "_law_error") .nil)) (.lco (.cmp .Eq (.loc 3 "_law_at") (.loc 6 "_law_spot")) (.one 6) (.irg (.bca .len (.cons (.loc 2 "_law_made_here") .nil))) .nil [("_law_spot", 6)])) .nil))) (.cons (.ret (.cst (.bool false))) .nil) .nil) .nil))) (.cons (.asn (.tna 5 "_law_base") (.err "OrderError" (.loc 1 "_law_value"))) (.cons (.ret (.boo .And (.cons (.cmp .Eq (.bca .repr (.cons (.atv (.loc 5 "_law_base")) .nil)) (.bca .repr (.cons (.loc 1 "_law_value") .nil))) (.cons (.bca .isi (.cons (.loc 5 "_law_base") (.cons (.bty "ValueError" "ValueError") .nil))) (.cons (.nt (.bca .any (.cons (.cal "_law_marks" sp_law_marks [] (.cons (.loc 5 "_law_base") .nil)) .nil))) .nil))))) .nil)))))
theorem sc_law_right : FnScope N_law_right P_law_right (defScope (top 40)) := ⟨rfl, rfl, rfl, by decide +kernel, rfl, by decide +kernel, by decide +kernel⟩
theorem ck_law_right (sp_law_of : SpD) (sp_law_odd : SpD) (sp_law_bent : SpD) (sp_law_made : SpD) (sp_law_marks : SpD) : chk (m_law_right sp_law_of sp_law_odd sp_law_bent sp_law_made sp_law_marks) N_law_right (defScope (top 40)) (.ss (defBody (top 40))) = true := by kernel_rfl
/-! ### law -/
def N_law : List Str := ["_law_script", "_law_place"]
def P_law : List Str := ["_law_script"]
def m_law (sp_law_pot : SpD) (sp_law_cells : SpD) (sp_law_right : SpD) : M := (.cons (.ret (.bca .all (.cons (.lco (.cal "_law_right" sp_law_right [] (.cons (.cal "_law_pot" sp_law_pot [] (.cons (.loc 0 "_law_script") (.cons (.loc 1 "_law_place") .nil))) .nil)) (.one 1) (.iva (.cal "_law_cells" sp_law_cells [] (.cons (.loc 0 "_law_script") (.cons (.cst (.int 4)) .nil)))) .nil [("_law_place", 1)]) .nil))) .nil)
theorem sc_law : FnScope N_law P_law (defScope (top 41)) := ⟨rfl, rfl, rfl, by decide +kernel, rfl, by decide +kernel, by decide +kernel⟩
theorem ck_law (sp_law_pot : SpD) (sp_law_cells : SpD) (sp_law_right : SpD) : chk (m_law sp_law_pot sp_law_cells sp_law_right) N_law (defScope (top 41)) (.ss (defBody (top 41))) = true := by kernel_rfl
end LK
end
section
namespace LK
open PySem PySem.Spec PyProof.Rows L2 DL
local macro_rules | `(tactic| get_elem_tactic_trivial) => `(tactic| simp only [se_cst, st_cst, se_loc, st_loc, se_glo, st_glo, se_bty, st_bty, se_bin, st_bin, se_neg, st_neg, se_lis, st_lis, se_tpl, st_tpl, se_dic, st_dic, se_dic0, st_dic0, se_sub, st_sub, se_sli, st_sli, se_cal, st_cal, se_bca, st_bca, se_lrg, st_lrg, se_lco, st_lco, se_err, st_err, se_gcl, st_gcl, se_atv, st_atv, se_rev, st_rev, se_upp, st_upp, sa_nil, sps_nil, so_nil, ss_nil, sgs_nil, stt_nil, sn_nil, sa_cons, ss_cons, sgs_cons, sn_cons, stt_cons, san_1, san_2, sorr_1, sorr_2, stan_1, stan_2, stor_1, stor_2, sps_pr, so_som, se_nt, st_nt, se_And, st_And, se_Or, st_Or, se_cmp, st_cmp, se_ch2, st_ch2, se_ife, st_ife, si_iva, si_irg, si_ien, ss_exp, ss_ret, ss_retN, ss_asn, ss_par, ss_iff, ss_whl, ss_fr, ss_pas, ss_brk, ss_con, ss_nev, sg_tna, sg_ttu, sg_tsu, cR_non, cR_bool, cR_int, cR_str, sSeq, sIf, sAsg, sRet, sNext, dOp2, dVar, dCst, dCmpT, dBca, dCons, dNil, gdName, gdSub, dLst, dTup, dIfE, dCall, dLrg, dDic0, dDic, dPairs, dUn, negD, List.getElem?_cons_zero, List.getElem?_cons_succ, List.set_cons_zero, List.set_cons_succ])

def oddP : List PyData := [.none, .bool true, .bool false, .int 0, .int 1, .int (-1), .int 2, .str "", .str "a", .str "known", .str "before", .str "carries", .tuple [], .list [], .dict [], .tuple [.tuple []], .tuple [.int 0], .tuple [.int 0, .int 1],
  .list [.int 0], .dict [(.str "a", .int 1)], .int 99999, .str "1", .str "rule", .tuple [.str "a", .str "b"], .tuple [.str "fits"], .tuple [.none, .none], .tuple [.str "a", .bool true], .str "-"]
def spOdd : SpD := fun ds G Q _ => ∃ (p : Addr) (n : Nat), ds = [.ref p] ∧ Pot n G p ∧ n < 90000 ∧ ∀ (d : D) (q : PyData) (G' : Gp), q ∈ oddP → Vl (New G G') d q → Pot (n + 1) G' p → Ext p G G' → Q d G'
theorem sz {n : Nat} (h : Nat.ble n 1000 = true) : n ≤ sizeLine := by
  have := Nat.le_of_ble_eq_true h
  rw [sizeLine_eq]; omega
theorem alF {G : Gp} {q p : Addr} {o : OD} {n : Nat} (hP : Pot n G p) (h : G q = none) : q ≠ p ∧ up G q o q = some o ∧ Kp G (up G q o) ∧ Pot n (up G q o) p :=
  have ne : q ≠ p := fun e => by
    obtain ⟨_, _, _, z, _⟩ := hP
    subst e
    rw [h] at z
    cases z
  ⟨ne, up_same, Kp.new h, hP.kp (Kp.new h)⟩
theorem up_up {G : Gp} {p : Addr} {o u : OD} : up (up G p o) p u = up G p u := by
  funext b; unfold up; split <;> rfl
section
variable {K : PySem.W.Frag} {E : Addr → D → Gp → Prop}
theorem odd_hp (ds : List D) (G : Gp) (Q : D → Gp → Prop) (h : spOdd ds G Q E) : (sem K (m_law_odd spOf)).s { nx := fun _ G' => Q .non G', rt := Q, ex := fun C d _ G' => E C d G' } (startD N_law_odd ds) G := by
  obtain ⟨p, n, rfl, hP, hn, hQ⟩ := h
  have st : startD N_law_odd [.ref p] = [some (.ref p), none] := rfl
  rw [st]
  unfold m_law_odd
  get_elem_tactic_trivial
  refine ⟨sz rfl, sz rfl, fun p1 h1 => ?_⟩
  have k1 := Kp.new (o := .lst []) h1
  have e1 : up G p1 (.lst []) p1 = some (.lst []) := up_same
  have n1 : p1 ≠ p := fun e => by obtain ⟨_, _, _, z, _⟩ := hP; subst e; rw [h1] at z; cases z
  generalize up G p1 (.lst []) = G1 at *
  intro p2 h2
  have k2 := Kp.new (o := .dk []) h2
  have e2 : up G1 p2 (.dk []) p2 = some (.dk []) := up_same
  have P1 := hP.kp k1
  have n2 : p2 ≠ p := fun e => by obtain ⟨_, _, _, z, _⟩ := P1; subst e; rw [h2] at z; cases z
  generalize up G1 p2 (.dk []) = G2 at *
  refine ⟨sz rfl, sz rfl, sz rfl, sz rfl, sz rfl, fun p3 h3 => ?_⟩
  have k3 := Kp.new (o := .lst [D.non, D.bl true, D.bl false, D.int 0, D.int 1, D.int (-1), D.int 2, D.str "", D.str "a", D.str "known", D.str "before", D.str "carries", D.tup [], D.ref p1, D.ref p2, D.tup [D.tup []], D.tup [D.int 0], D.tup [D.int 0, D.int 1]]) h3
  have e3 : up G2 p3 (.lst [D.non, D.bl true, D.bl false, D.int 0, D.int 1, D.int (-1), D.int 2, D.str "", D.str "a", D.str "known", D.str "before", D.str "carries", D.tup [], D.ref p1, D.ref p2, D.tup [D.tup []], D.tup [D.int 0], D.tup [D.int 0, D.int 1]]) p3 = some (.lst [D.non, D.bl true, D.bl false, D.int 0, D.int 1, D.int (-1), D.int 2, D.str "", D.str "a", D.str "known", D.str "before", D.str "carries", D.tup [], D.ref p1, D.ref p2, D.tup [D.tup []], D.tup [D.int 0], D.tup [D.int 0, D.int 1]]) := up_same
  have P2 := P1.kp k2
  generalize up G2 p3 (.lst [D.non, D.bl true, D.bl false, D.int 0, D.int 1, D.int (-1), D.int 2, D.str "", D.str "a", D.str "known", D.str "before", D.str "carries", D.tup [], D.ref p1, D.ref p2, D.tup [D.tup []], D.tup [D.int 0], D.tup [D.int 0, D.int 1]]) = G3 at *
  refine ⟨sz rfl, fun p4 h4 => ?_⟩
  have k4 := Kp.new (o := .lst [.int 0]) h4
  have e4 : up G3 p4 (.lst [.int 0]) p4 = some (.lst [.int 0]) := up_same
  have P3 := P2.kp k3
  have n4 : p4 ≠ p := fun e => by obtain ⟨_, _, _, z, _⟩ := P3; subst e; rw [h4] at z; cases z
  generalize up G3 p4 (.lst [.int 0]) = G4 at *
  intro p5 h5
  refine ⟨up_same, ?_⟩
  show _ ∧ _
  rw [up_up]
  have k5 := Kp.new (o := .dk (mergeD [] [(Sum.inr "a", .int 1)])) h5
  have e5 : up G4 p5 (.dk (mergeD [] [(Sum.inr "a", .int 1)])) p5 = some (.dk [(Sum.inr "a", .int 1)]) := up_same
  have P4 := P3.kp k4
  have n5 : p5 ≠ p := fun e => by obtain ⟨_, _, _, z, _⟩ := P4; subst e; rw [h5] at z; cases z
  generalize up G4 p5 (.dk (mergeD [] [(Sum.inr "a", .int 1)])) = G5 at *
  refine ⟨by decide, sz rfl, sz rfl, sz rfl, sz rfl, sz rfl, fun p6 h6 => ?_⟩
  have P5 := P4.kp k5
  obtain ⟨n6, e6, k6, P6⟩ := alF (o := .lst [D.ref p4, D.ref p5, D.int 99999, D.str "1", D.str "rule", D.tup [D.str "a", D.str "b"], D.tup [D.str "fits"], D.tup [D.non, D.non], D.tup [D.str "a", D.bl true], D.str "-"]) P5 h6
  generalize up G5 p6 _ = G6 at *
  refine lsM_lst (k6 _ _ (k5 _ _ (k4 _ _ e3))) (lsM_lst e6 ⟨sz rfl, fun p7 h7 => ?_⟩)
  obtain ⟨n7, e7, k7, P7⟩ := alF (o := .lst ([D.non, D.bl true, D.bl false, D.int 0, D.int 1, D.int (-1), D.int 2, D.str "", D.str "a", D.str "known", D.str "before", D.str "carries", D.tup [], D.ref p1, D.ref p2, D.tup [D.tup []], D.tup [D.int 0], D.tup [D.int 0, D.int 1]] ++ [D.ref p4, D.ref p5, D.int 99999, D.str "1", D.str "rule", D.tup [D.str "a", D.str "b"], D.tup [D.str "fits"], D.tup [D.non, D.non], D.tup [D.str "a", D.bl true], D.str "-"])) P6 h7
  generalize up G6 p7 _ = G7 at *
  have k47 : Kp G4 G7 := k5.trans (k6.trans k7)
  have k27 : Kp G2 G7 := k3.trans (k4.trans k47)
  refine ⟨p, p7, n, _, rfl, P7, by omega, Ne.symm n7, e7, by simp, Nat.lt_of_le_of_lt (Nat.le_of_ble_eq_true (show Nat.ble _ 1000 = true from rfl)) (by decide), fun x G' hx hP' hxt => ?_⟩
  have back : ∀ {H H' : Gp} {a : Addr}, Kp H H' → H' a = none → H a = none := fun {H H' a} k e => by
    cases z : H a with
    | none => rfl
    | some o => rw [k a o z] at e; cases e
  have k02 : Kp G G2 := k1.trans k2
  have k04 : Kp G G4 := k02.trans (k3.trans k4)
  have vl : VlL (New G G7) ([D.non, D.bl true, D.bl false, D.int 0, D.int 1, D.int (-1), D.int 2, D.str "", D.str "a", D.str "known", D.str "before", D.str "carries", D.tup [], D.ref p1, D.ref p2, D.tup [D.tup []], D.tup [D.int 0], D.tup [D.int 0, D.int 1]] ++ [D.ref p4, D.ref p5, D.int 99999, D.str "1", D.str "rule", D.tup [D.str "a", D.str "b"], D.tup [D.str "fits"], D.tup [D.non, D.non], D.tup [D.str "a", D.bl true], D.str "-"]) oddP := by
    have w1 : Vl (New G G7) (.ref p1) (.list []) := vl_lst (New_at h1 (k27 _ _ (k2 _ _ e1))) lnil
    have w2 : Vl (New G G7) (.ref p2) (.dict []) := vl_dk0 (New_at (back k1 h2) (k27 _ _ e2))
    have w4 : Vl (New G G7) (.ref p4) (.list [.int 0]) := vl_lst (New_at (back (k02.trans k3) h4) (k47 _ _ e4)) (lcons vl_int lnil)
    have w5 : Vl (New G G7) (.ref p5) (.dict [(kPy (Sum.inr "a"), .int 1)]) := vl_dk1 (New_at (back k04 h5) (k7 _ _ (k6 _ _ e5))) vl_int
    show VlL (New G G7) (_ :: _) (_ :: _)
    repeat' first
      | exact lnil
      | exact vl_non
      | exact vl_bl
      | exact vl_int
      | exact vl_str
      | exact w1
      | exact w2
      | exact w4
      | exact w5
      | refine lcons ?_ ?_
      | refine vl_tup ?_
  obtain ⟨q, hq, hv⟩ := vl.mem hx
  refine hQ x q G' hq (hv.kp fun a o e => ?_) hP' ((k02.trans k27).ext.trans hxt)
  obtain ⟨z1, z2⟩ := New_of e
  exact New_at z1 (hxt a o (fun w => by obtain ⟨_, _, _, y, _⟩ := hP; rw [w, y] at z1; cases z1) z2)
end
end LK
end
section
namespace LK
open PySem PySem.Spec PyProof.Rows L2 DL
local macro_rules | `(tactic| get_elem_tactic_trivial) => `(tactic| simp only [se_cst, st_cst, se_loc, st_loc, se_glo, st_glo, se_bty, st_bty, se_bin, st_bin, se_neg, st_neg, se_lis, st_lis, se_tpl, st_tpl, se_dic, st_dic, se_dic0, st_dic0, se_sub, st_sub, se_sli, st_sli, se_cal, st_cal, se_bca, st_bca, se_lrg, st_lrg, se_lco, st_lco, se_err, st_err, se_gcl, st_gcl, se_atv, st_atv, se_rev, st_rev, se_upp, st_upp, sa_nil, sps_nil, so_nil, ss_nil, sgs_nil, stt_nil, sn_nil, sa_cons, ss_cons, sgs_cons, sn_cons, stt_cons, san_1, san_2, sorr_1, sorr_2, stan_1, stan_2, stor_1, stor_2, sps_pr, so_som, se_nt, st_nt, se_And, st_And, se_Or, st_Or, se_cmp, st_cmp, se_ch2, st_ch2, se_ife, st_ife, si_iva, si_irg, si_ien, ss_exp, ss_ret, ss_retN, ss_asn, ss_par, ss_iff, ss_whl, ss_fr, ss_pas, ss_brk, ss_con, ss_nev, sg_tna, sg_ttu, sg_tsu, cR_non, cR_bool, cR_int, cR_str, sSeq, sIf, sAsg, sRet, sNext, dOp2, dVar, dCst, dCmpT, dBca, dCons, dNil, gdName, gdSub, dLst, dTup, dIfE, dCall, dLrg, dDic0, dDic, dPairs, dUn, negD, dAndT, dOrT, dNotT, dSli, dNoPart, dPart, sPar, dRev, dUpp, dTru, dAndV, dOrV, List.getElem?_cons_zero, List.getElem?_cons_succ, List.set_cons_zero, List.set_cons_succ])

/-- bent: the inputs with what may come of them, b draws at most -/
def spB (b : Nat) (inp : List (D × List PyData)) : SpD := fun ds G Q _ => ∃ (p : Addr) (d : D) (outs : List PyData) (n : Nat), ds = [.ref p, d] ∧ (d, outs) ∈ inp ∧ Pot n G p ∧ n < 80000 - 1000 * b ∧ ∀ (x : D) (q : PyData) (G' : Gp), q ∈ outs → Val p G' x q → Pot (n + b) G' p → Ext p G G' → Q x G'
def strP (z : Str) : List PyData := [.str (z ++ "a"), .str (cutS z none (some (-1))), .str (Txt.upper z), .str "b", .str "known", .none, .list [.str z]]
def intP (i : Int) : List PyData := [.int (i + 1), .int (i - 1), .int (-i), .bool (decide (i = 1)), .str (toString i), .none, .tuple [.int i]]
def pairP (v1 v2 : PyData) (o1 o2 : List PyData) : List PyData := (o1.map fun x => .tuple [x, v2]) ++ ((o2.map fun y => .tuple [v1, y]) ++ ([.tuple [v2], .tuple [v1], .tuple [v1, v1, v2], .tuple [v1, v2, v2], .tuple [v2, v1], .list [v1, v2], .tuple [], .none, .tuple [v1, v2, .int 0]] ++ oddP))
section
variable {K : PySem.W.Frag} {E : Addr → D → Gp → Prop}
theorem truB {b : Bool} {G : Gp} {k : Bool → Prop} : truD (.bl b) G k = k b := rfl
theorem isNo {d : D} {G : Gp} {k : Bool → Prop} : cmpR .Is d .non G k = k (isNon d) := by cases d <;> rfl
theorem isiS {z : Str} {G : Gp} {Q : KD} {t : String} {b : Bool} (h : kitB "str" t = some b) : biR K .isi [.str z, .ty t] G Q = Q (.bl b) G := by
  have e : PySem.W.kitOne K (.type "str") (.type t) = some b := kit_ty h
  simp only [biR, isiD, typD, clsD, optD, e]
theorem isiI {z : Int} {G : Gp} {Q : KD} {t : String} {b : Bool} (h : kitB "int" t = some b) : biR K .isi [.int z, .ty t] G Q = Q (.bl b) G := by
  have e : PySem.W.kitOne K (.type "int") (.type t) = some b := kit_ty h
  simp only [biR, isiD, typD, clsD, optD, e]
theorem isiT {z : List D} {G : Gp} {Q : KD} {t : String} {b : Bool} (h : kitB "tuple" t = some b) : biR K .isi [.tup z, .ty t] G Q = Q (.bl b) G := by
  have e : PySem.W.kitOne K (.type "tuple") (.type t) = some b := kit_ty h
  simp only [biR, isiD, typD, clsD, optD, e]
theorem bent_str {spR : SpD} {z : Str} (hz : z.length ≤ 1000) (p : Addr) (n : Nat) (G : Gp) (Q : D → Gp → Prop) (hP : Pot n G p) (hn : n < 90000) (hQ : ∀ (x : D) (q : PyData) (G' : Gp), q ∈ strP z → Val p G' x q → Pot (n + 1) G' p → Ext p G G' → Q x G') :
    (sem K (m_law_bent spTake spOf spOdd spR)).s { nx := fun _ G' => Q .non G', rt := Q, ex := fun C d _ G' => E C d G' } (startD N_law_bent [.ref p, .str z]) G := by
  have st : startD N_law_bent [.ref p, .str z] = [some (.ref p), some (.str z), none, none, none] := rfl
  rw [st]
  unfold m_law_bent
  get_elem_tactic_trivial
  simp only [truB, isNo, Bool.false_eq_true, if_false, if_true, isNon, isiS (show kitB "str" "tuple" = some false by decide +kernel), isiS (show kitB "str" "bool" = some false by decide +kernel), isiS (show kitB "str" "int" = some false by decide +kernel), isiS (show kitB "str" "str" = some true by decide +kernel)]
  refine ⟨?_, ?_, by omega, sz rfl, fun p1 h1 => ?_⟩
  · show z.length + 1 ≤ sizeLine
    rw [sizeLine_eq]; omega
  · rw [sizeLine_eq]; omega
  obtain ⟨n1, e1, k1, P1⟩ := alF (o := .lst [.str z]) hP h1
  generalize up G p1 _ = G1 at *
  refine ⟨sz rfl, fun p2 h2 => ?_⟩
  obtain ⟨n2, e2, k2, P2⟩ := alF (o := .lst [.str (z ++ "a"), .str (cutS z none (some (-1))), .str (Txt.upper z), .str "b", .str "known", .non, .ref p1]) P1 h2
  generalize up G1 p2 _ = G2 at *
  refine ⟨p, p2, n, _, rfl, P2, by omega, Ne.symm n2, e2, by simp, Nat.lt_of_le_of_lt (Nat.le_of_ble_eq_true (show Nat.ble _ 1000 = true from rfl)) (by decide), fun x G' hx hP' hxt => ?_⟩
  have vl : ValL p G2 [.str (z ++ "a"), .str (cutS z none (some (-1))), .str (Txt.upper z), .str "b", .str "known", .non, .ref p1] (strP z) := by
    have w1 : Val p G2 (.ref p1) (.list [.str z]) := val_lst n1 (k2 _ _ e1) (vcons val_str vnil)
    exact vcons val_str (vcons val_str (vcons val_str (vcons val_str (vcons val_str (vcons val_non (vcons w1 vnil))))))
  obtain ⟨q, hq, hv⟩ := vl.mem hx
  exact hQ x q G' hq (hv.ext hxt) hP' ((k1.trans k2).ext.trans hxt)
theorem eqI {i j : Int} {G : Gp} {Q : KD} : DL.cmp .Eq (.int i) (.int j) G Q = Q (.bl (decide (i = j))) G := rfl
theorem bent_int {spR : SpD} {i : Int} (hi : i.natAbs.log2 < 1920) (p : Addr) (n : Nat) (G : Gp) (Q : D → Gp → Prop) (hP : Pot n G p) (hn : n < 90000) (hQ : ∀ (x : D) (q : PyData) (G' : Gp), q ∈ intP i → Val p G' x q → Pot (n + 1) G' p → Ext p G G' → Q x G') :
    (sem K (m_law_bent spTake spOf spOdd spR)).s { nx := fun _ G' => Q .non G', rt := Q, ex := fun C d _ G' => E C d G' } (startD N_law_bent [.ref p, .int i]) G := by
  have st : startD N_law_bent [.ref p, .int i] = [some (.ref p), some (.int i), none, none, none] := rfl
  rw [st]
  unfold m_law_bent
  get_elem_tactic_trivial
  simp only [truB, isNo, Bool.false_eq_true, if_false, if_true, isNon, isiI (show kitB "int" "tuple" = some false by decide +kernel), isiI (show kitB "int" "bool" = some false by decide +kernel), isiI (show kitB "int" "int" = some true by decide +kernel), bin_addI, bin_subI, eqI]
  refine ⟨hi, sz rfl, sz rfl, fun p2 h2 => ?_⟩
  obtain ⟨n2, e2, k2, P2⟩ := alF (o := .lst [.int (i + 1), .int (i - 1), .int (-i), .bl (decide (i = 1)), .str (toString i), .non, .tup [.int i]]) hP h2
  generalize up G p2 _ = G2 at *
  refine ⟨p, p2, n, _, rfl, P2, by omega, Ne.symm n2, e2, by simp, Nat.lt_of_le_of_lt (Nat.le_of_ble_eq_true (show Nat.ble _ 1000 = true from rfl)) (by decide), fun x G' hx hP' hxt => ?_⟩
  have vl : ValL p G2 [.int (i + 1), .int (i - 1), .int (-i), .bl (decide (i = 1)), .str (toString i), .non, .tup [.int i]] (intP i) :=
    vcons val_int (vcons val_int (vcons val_int (vcons val_bl (vcons val_str (vcons val_non (vcons (val_tup (vcons val_int vnil)) vnil))))))
  obtain ⟨q, hq, hv⟩ := vl.mem hx
  exact hQ x q G' hq (hv.ext hxt) hP' (k2.ext.trans hxt)
theorem lenT {z : List D} {G : Gp} {Q : KD} : biR K .len [.tup z] G Q = Q (.int z.length) G := rfl
theorem neT {a b : List D} {G : Gp} {k : Bool → Prop} : cmpR .NotEq (.tup a) (.tup b) G k = (∃ n p q, deep G n (.tup a) = some p ∧ deep G n (.tup b) = some q ∧ SeqAt.shaped p = true ∧ SeqAt.shaped q = true ∧ k (!(PyData.eqv p q))) := rfl
theorem bent_pair {b : Nat} {inp : List (D × List PyData)} {d1 d2 : D} {v1 v2 : PyData} {o1 o2 : List PyData} (i1 : (d1, o1) ∈ inp) (i2 : (d2, o2) ∈ inp) (w1 : ∀ p G, Val p G d1 v1) (w2 : ∀ p G, Val p G d2 v2) (hs : SeqAt.shaped (.tuple [v1, v2]) = true) (he : PyData.eqv (.tuple [v1, v2]) (.tuple []) = false)
    (p : Addr) (n : Nat) (G : Gp) (Q : D → Gp → Prop) (hP : Pot n G p) (hn : n + 3 < 80000 - 1000 * b) (hQ : ∀ (x : D) (q : PyData) (G' : Gp), q ∈ pairP v1 v2 o1 o2 → Val p G' x q → Pot (n + b + 3) G' p → Ext p G G' → Q x G') :
    (sem K (m_law_bent spTake spOf spOdd (spB b inp))).s { nx := fun _ G' => Q .non G', rt := Q, ex := fun C d _ G' => E C d G' } (startD N_law_bent [.ref p, .tup [d1, d2]]) G := by
  have st : startD N_law_bent [.ref p, .tup [d1, d2]] = [some (.ref p), some (.tup [d1, d2]), none, none, none] := rfl
  rw [st]
  unfold m_law_bent
  get_elem_tactic_trivial
  simp only [truB, isNo, Bool.false_eq_true, if_false, if_true, isNon, isiT (show kitB "tuple" "tuple" = some true by decide +kernel), lenT]
  refine ⟨sz rfl, ?_⟩
  rw [neT]
  obtain ⟨m, hm⟩ := (val_tup (p := p) (G := G) (vcons (w1 _ _) (vcons (w2 _ _) vnil))).deep
  refine ⟨m + 1, _, .tuple [], deep_up (Nat.le_succ m) hm, rfl, hs, by decide +kernel, ?_⟩
  rw [he]
  simp only [Bool.not_false, if_true]
  refine ⟨p, 6, n, rfl, hP, by omega, by decide, by decide, fun v G1 hv1 hv2 P1 x1 => ?_⟩
  show cmpR .Gt (.int v) (.int 0) G1 _
  simp only [gtI]
  have x1' := x1
  by_cases h0 : 0 < v
  · rw [if_pos (decide_eq_true h0)]
    refine ⟨p, 6, n + 1, rfl, P1, by omega, by decide, by decide, fun way G2 hw1 hw2 P2 x2 => ?_⟩
    refine ⟨p, 2, n + 2, rfl, P2, by omega, by decide, by decide, fun at' G3 ha1 ha2 P3 x3 => ?_⟩
    show cmpR .Lt (.int way) (.int 3) G3 _
    simp only [ltI]
    have xx : Ext p G G3 := x1.trans (x2.trans x3)
    have hat : at' = 0 ∨ at' = 1 := by omega
    by_cases hw : way < 3
    · rw [if_pos (decide_eq_true hw)]
      rcases hat with rfl | rfl
      · show spB b inp [.ref p, d1] G3 _ (fun C d G2 => E C d G2)
        refine ⟨p, d1, o1, n + 3, rfl, i1, P3, by omega, fun x q G4 hq hv P4 x4 => ?_⟩
        refine ⟨sz rfl, sz rfl, ?_⟩
        show _ ∧ Q (.tup [x, d2]) G4
        refine ⟨sz rfl, hQ _ (.tuple [q, v2]) G4 ?_ (val_tup (vcons hv (vcons (w2 _ _) vnil))) (P4.mono (by omega)) (xx.trans x4)⟩
        exact List.mem_append_left _ (List.mem_map.mpr ⟨q, hq, rfl⟩)
      · show spB b inp [.ref p, d2] G3 _ (fun C d G2 => E C d G2)
        refine ⟨p, d2, o2, n + 3, rfl, i2, P3, by omega, fun x q G4 hq hv P4 x4 => ?_⟩
        refine ⟨sz rfl, sz rfl, ?_⟩
        show _ ∧ Q (.tup [d1, x]) G4
        refine ⟨sz rfl, hQ _ (.tuple [v1, q]) G4 ?_ (val_tup (vcons (w1 _ _) (vcons hv vnil))) (P4.mono (by omega)) (xx.trans x4)⟩
        exact List.mem_append_right _ (List.mem_append_left _ (List.mem_map.mpr ⟨q, hq, rfl⟩))
    · rw [if_neg (fun z => hw (of_decide_eq_true z))]
      have hway : way = 3 ∨ way = 4 ∨ way = 5 := by omega
      have fin : ∀ (x : D) (q : PyData), q ∈ [PyData.tuple [v2], .tuple [v1], .tuple [v1, v1, v2], .tuple [v1, v2, v2], .tuple [v2, v1]] → (∀ G', Val p G' x q) → ∀ G', Kp G3 G' → Pot (n + 3) G' p → Q x G' := fun x q hq hv G' k hp' =>
        hQ x q G' (List.mem_append_right _ (List.mem_append_right _ (List.mem_append_left _ (by revert hq; simp only [List.mem_cons]; intro hq; rcases hq with h | h | h | h | h | h <;> simp_all)))) (hv G') (hp'.mono (by omega)) (xx.trans k.ext)
      rcases hat with rfl | rfl
      · show _ ∧ _ ∧ _ ∧ _
        refine ⟨sz rfl, sz rfl, sz rfl, sz rfl, fun r hr => ?_⟩
        obtain ⟨nr, er, kr, Pr⟩ := alF (o := .lst [.tup [d2], .tup [d1, d1, d2], .tup [d2, d1]]) P3 hr
        show DL.bin .Sub (.int way) (.int 3) (up G3 r (.lst [.tup [d2], .tup [d1, d1, d2], .tup [d2, d1]])) _
        generalize up G3 r _ = G4 at *
        simp only [bin_subI, subD, er]
        rcases hway with rfl | rfl | rfl
        · exact fin (.tup [d2]) _ (by simp) (fun G' => val_tup (vcons (w2 _ _) vnil)) G4 kr Pr
        · exact fin (.tup [d1, d1, d2]) (.tuple [v1, v1, v2]) (by simp) (fun G' => val_tup (vcons (w1 _ _) (vcons (w1 _ _) (vcons (w2 _ _) vnil)))) G4 kr Pr
        · exact fin (.tup [d2, d1]) (.tuple [v2, v1]) (by simp) (fun G' => val_tup (vcons (w2 _ _) (vcons (w1 _ _) vnil))) G4 kr Pr
      · show _ ∧ _ ∧ _ ∧ _
        refine ⟨sz rfl, sz rfl, sz rfl, sz rfl, fun r hr => ?_⟩
        obtain ⟨nr, er, kr, Pr⟩ := alF (o := .lst [.tup [d1], .tup [d1, d2, d2], .tup [d2, d1]]) P3 hr
        show DL.bin .Sub (.int way) (.int 3) (up G3 r (.lst [.tup [d1], .tup [d1, d2, d2], .tup [d2, d1]])) _
        generalize up G3 r _ = G4 at *
        simp only [bin_subI, subD, er]
        rcases hway with rfl | rfl | rfl
        · exact fin (.tup [d1]) (.tuple [v1]) (by simp) (fun G' => val_tup (vcons (w1 _ _) vnil)) G4 kr Pr
        · exact fin (.tup [d1, d2, d2]) (.tuple [v1, v2, v2]) (by simp) (fun G' => val_tup (vcons (w1 _ _) (vcons (w2 _ _) (vcons (w2 _ _) vnil)))) G4 kr Pr
        · exact fin (.tup [d2, d1]) (.tuple [v2, v1]) (by simp) (fun G' => val_tup (vcons (w2 _ _) (vcons (w1 _ _) vnil))) G4 kr Pr
  · rw [if_neg (fun z => h0 (of_decide_eq_true z))]
    intro r hr
    obtain ⟨nr, er, kr, Pr⟩ := alF (o := .lst [d1, d2]) P1 hr
    generalize up G1 r _ = G2 at *
    refine ⟨sz rfl, sz rfl, sz rfl, ?_⟩
    refine ⟨p, n + 1, rfl, Pr, by omega, fun d q G3 hq hv0 P3 x3 => ?_⟩
    have hv : Val p G3 d q := hv0.val (fun z => by obtain ⟨_, _, _, y, _⟩ := Pr; rw [z] at y; cases y)
    refine ⟨sz rfl, fun l hl => ?_⟩
    obtain ⟨nl, el, kl, Pl⟩ := alF (o := .lst [.ref r, .tup [], .non, .tup [d1, d2, .int 0], d]) P3 hl
    show spOf [.ref p, .ref l] (up G3 l (.lst [.ref r, .tup [], .non, .tup [d1, d2, .int 0], d])) Q (fun C d G2 => E C d G2)
    generalize up G3 l _ = G4 at *
    refine ⟨p, l, n + 1 + 1, _, rfl, Pl, by omega, Ne.symm nl, el, by simp, Nat.lt_of_le_of_lt (Nat.le_of_ble_eq_true (show Nat.ble _ 1000 = true from rfl)) (by decide), fun x G' hx hP' hxt => ?_⟩
    have vl : ValL p G4 [.ref r, .tup [], .non, .tup [d1, d2, .int 0], d] [.list [v1, v2], .tuple [], .none, .tuple [v1, v2, .int 0], q] :=
      vcons (val_lst nr (kl _ _ (x3 _ _ nr er)) (vcons (w1 _ _) (vcons (w2 _ _) vnil))) (vcons (val_tup vnil) (vcons val_non (vcons (val_tup (vcons (w1 _ _) (vcons (w2 _ _) (vcons val_int vnil)))) (vcons (hv.kp kl) vnil))))
    obtain ⟨q', hq', hv'⟩ := vl.mem hx
    refine hQ x q' G' ?_ (hv'.ext hxt) (hP'.mono (by omega)) ((x1.trans (kr.ext.trans x3)).trans (kl.ext.trans hxt))
    refine List.mem_append_right _ (List.mem_append_right _ ?_)
    have : q' = .list [v1, v2] ∨ q' = .tuple [] ∨ q' = .none ∨ q' = .tuple [v1, v2, .int 0] ∨ q' = q := by simpa using hq'
    rcases this with rfl | rfl | rfl | rfl | rfl
    · exact List.mem_append_left _ (by simp)
    · exact List.mem_append_left _ (by simp)
    · exact List.mem_append_left _ (by simp)
    · exact List.mem_append_left _ (by simp)
    · exact List.mem_append_right _ hq
end
end LK
end
section
namespace LK
open PySem PySem.Spec PyProof.Rows L2 DL
local macro_rules | `(tactic| get_elem_tactic_trivial) => `(tactic| simp only [se_cst, st_cst, se_loc, st_loc, se_glo, st_glo, se_bty, st_bty, se_bin, st_bin, se_neg, st_neg, se_lis, st_lis, se_tpl, st_tpl, se_dic, st_dic, se_dic0, st_dic0, se_sub, st_sub, se_sli, st_sli, se_cal, st_cal, se_bca, st_bca, se_lrg, st_lrg, se_lco, st_lco, se_err, st_err, se_gcl, st_gcl, se_atv, st_atv, se_rev, st_rev, se_upp, st_upp, sa_nil, sps_nil, so_nil, ss_nil, sgs_nil, stt_nil, sn_nil, sa_cons, ss_cons, sgs_cons, sn_cons, stt_cons, san_1, san_2, sorr_1, sorr_2, stan_1, stan_2, stor_1, stor_2, sps_pr, so_som, se_nt, st_nt, se_And, st_And, se_Or, st_Or, se_cmp, st_cmp, se_ch2, st_ch2, se_ife, st_ife, si_iva, si_irg, si_ien, ss_exp, ss_ret, ss_retN, ss_asn, ss_par, ss_iff, ss_whl, ss_fr, ss_pas, ss_brk, ss_con, ss_nev, sg_tna, sg_ttu, sg_tsu, cR_non, cR_bool, cR_int, cR_str, sSeq, sIf, sAsg, sRet, sNext, dOp2, dVar, dCst, dCmpT, dBca, dCons, dNil, gdName, gdSub, dLst, dTup, dIfE, dCall, dLrg, dDic0, dDic, dPairs, dUn, negD, dAndT, dOrT, dNotT, dSli, dNoPart, dPart, sPar, dRev, dUpp, dErr, dVal, dTru, dAndV, dOrV, List.getElem?_cons_zero, List.getElem?_cons_succ, List.set_cons_zero, List.set_cons_succ])

def NMS : List Str := ["BadHouse", "NoRule", "NoPass", "NotFull", "BadName", "BadRows", "BadSeen", "Unfit", "BadTool", "BadLoad", "BadPromise", "BadPromises", "BadSigns", "BadForms", "OtherSigns", "TooMany", "BadLength", "BadWork", "NoFile", "BadChanges", "BadOffers", "BadLine", "NoLine", "Needed", "NothingToUndo", "NothingToRedo", "NoTrial", "BadJournal", "BadSay"]
section
variable {K : PySem.W.Frag} {E : Addr → D → Gp → Prop}
def spMade (K : PySem.W.Frag) : SpD := fun ds G Q _ => ∃ v : D, ds = [v] ∧ ∀ (q : Addr) (G' : Gp), Kp G G' → G' q = some (.lst (NMS.map fun x => .exc (He.ga K x) v)) → Q (.ref q) G'
theorem made_hp (ds : List D) (G : Gp) (Q : D → Gp → Prop) (h : spMade K ds G Q E) : (sem K m_law_made).s { nx := fun _ G' => Q .non G', rt := Q, ex := fun C d _ G' => E C d G' } (startD N_law_made ds) G := by
  obtain ⟨v, rfl, hQ⟩ := h
  have st : startD N_law_made [v] = [some v, none] := rfl
  rw [st]
  unfold m_law_made
  get_elem_tactic_trivial
  refine ⟨sz rfl, fun p0 h0 => ?_⟩
  have e0 : up G p0 (.lst [.exc (He.ga K "BadHouse") v, .exc (He.ga K "NoRule") v, .exc (He.ga K "NoPass") v]) p0 = some (.lst [.exc (He.ga K "BadHouse") v, .exc (He.ga K "NoRule") v, .exc (He.ga K "NoPass") v]) := up_same
  have k0 : Kp G (up G p0 (.lst [.exc (He.ga K "BadHouse") v, .exc (He.ga K "NoRule") v, .exc (He.ga K "NoPass") v])) := Kp.new h0
  generalize up G p0 _ = G0 at *
  refine ⟨sz rfl, fun a1 g1 => ?_⟩
  have f1 : up G0 a1 (.lst [.exc (He.ga K "NotFull") v, .exc (He.ga K "BadName") v, .exc (He.ga K "BadRows") v]) a1 = some (.lst [.exc (He.ga K "NotFull") v, .exc (He.ga K "BadName") v, .exc (He.ga K "BadRows") v]) := up_same
  have l1 : Kp G0 (up G0 a1 (.lst [.exc (He.ga K "NotFull") v, .exc (He.ga K "BadName") v, .exc (He.ga K "BadRows") v])) := Kp.new g1
  generalize up G0 a1 _ = F1 at *
  refine lsM_lst (l1 _ _ e0) (lsM_lst f1 ⟨sz rfl, fun p1 h1 => ?_⟩)
  have e1 : up F1 p1 (.lst ([.exc (He.ga K "BadHouse") v, .exc (He.ga K "NoRule") v, .exc (He.ga K "NoPass") v] ++ [.exc (He.ga K "NotFull") v, .exc (He.ga K "BadName") v, .exc (He.ga K "BadRows") v])) p1 = some (.lst [.exc (He.ga K "BadHouse") v, .exc (He.ga K "NoRule") v, .exc (He.ga K "NoPass") v, .exc (He.ga K "NotFull") v, .exc (He.ga K "BadName") v, .exc (He.ga K "BadRows") v]) := up_same
  have k1 : Kp G0 (up F1 p1 (.lst ([.exc (He.ga K "BadHouse") v, .exc (He.ga K "NoRule") v, .exc (He.ga K "NoPass") v] ++ [.exc (He.ga K "NotFull") v, .exc (He.ga K "BadName") v, .exc (He.ga K "BadRows") v]))) := l1.trans (Kp.new h1)
  generalize up F1 p1 _ = G1 at *
  refine ⟨sz rfl, fun a2 g2 => ?_⟩
  have f2 : up G1 a2 (.lst [.exc (He.ga K "BadSeen") v, .exc (He.ga K "Unfit") v, .exc (He.ga K "BadTool") v]) a2 = some (.lst [.exc (He.ga K "BadSeen") v, .exc (He.ga K "Unfit") v, .exc (He.ga K "BadTool") v]) := up_same
  have l2 : Kp G1 (up G1 a2 (.lst [.exc (He.ga K "BadSeen") v, .exc (He.ga K "Unfit") v, .exc (He.ga K "BadTool") v])) := Kp.new g2
  generalize up G1 a2 _ = F2 at *
  refine lsM_lst (l2 _ _ e1) (lsM_lst f2 ⟨sz rfl, fun p2 h2 => ?_⟩)
  have e2 : up F2 p2 (.lst ([.exc (He.ga K "BadHouse") v, .exc (He.ga K "NoRule") v, .exc (He.ga K "NoPass") v, .exc (He.ga K "NotFull") v, .exc (He.ga K "BadName") v, .exc (He.ga K "BadRows") v] ++ [.exc (He.ga K "BadSeen") v, .exc (He.ga K "Unfit") v, .exc (He.ga K "BadTool") v])) p2 = some (.lst [.exc (He.ga K "BadHouse") v, .exc (He.ga K "NoRule") v, .exc (He.ga K "NoPass") v, .exc (He.ga K "NotFull") v, .exc (He.ga K "BadName") v, .exc (He.ga K "BadRows") v, .exc (He.ga K "BadSeen") v, .exc (He.ga K "Unfit") v, .exc (He.ga K "BadTool") v]) := up_same
  have k2 : Kp G1 (up F2 p2 (.lst ([.exc (He.ga K "BadHouse") v, .exc (He.ga K "NoRule") v, .exc (He.ga K "NoPass") v, .exc (He.ga K "NotFull") v, .exc (He.ga K "BadName") v, .exc (He.ga K "BadRows") v] ++ [.exc (He.ga K "BadSeen") v, .exc (He.ga K "Unfit") v, .exc (He.ga K "BadTool") v]))) := l2.trans (Kp.new h2)
  generalize up F2 p2 _ = G2 at *
  refine ⟨sz rfl, fun a3 g3 => ?_⟩
  have f3 : up G2 a3 (.lst [.exc (He.ga K "BadLoad") v, .exc (He.ga K "BadPromise") v, .exc (He.ga K "BadPromises") v]) a3 = some (.lst [.exc (He.ga K "BadLoad") v, .exc (He.ga K "BadPromise") v, .exc (He.ga K "BadPromises") v]) := up_same
  have l3 : Kp G2 (up G2 a3 (.lst [.exc (He.ga K "BadLoad") v, .exc (He.ga K "BadPromise") v, .exc (He.ga K "BadPromises") v])) := Kp.new g3
  generalize up G2 a3 _ = F3 at *
  refine lsM_lst (l3 _ _ e2) (lsM_lst f3 ⟨sz rfl, fun p3 h3 => ?_⟩)
  have e3 : up F3 p3 (.lst ([.exc (He.ga K "BadHouse") v, .exc (He.ga K "NoRule") v, .exc (He.ga K "NoPass") v, .exc (He.ga K "NotFull") v, .exc (He.ga K "BadName") v, .exc (He.ga K "BadRows") v, .exc (He.ga K "BadSeen") v, .exc (He.ga K "Unfit") v, .exc (He.ga K "BadTool") v] ++ [.exc (He.ga K "BadLoad") v, .exc (He.ga K "BadPromise") v, .exc (He.ga K "BadPromises") v])) p3 = some (.lst [.exc (He.ga K "BadHouse") v, .exc (He.ga K "NoRule") v, .exc (He.ga K "NoPass") v, .exc (He.ga K "NotFull") v, .exc (He.ga K "BadName") v, .exc (He.ga K "BadRows") v, .exc (He.ga K "BadSeen") v, .exc (He.ga K "Unfit") v, .exc (He.ga K "BadTool") v, .exc (He.ga K "BadLoad") v, .exc (He.ga K "BadPromise") v, .exc (He.ga K "BadPromises") v]) := up_same
  have k3 : Kp G2 (up F3 p3 (.lst ([.exc (He.ga K "BadHouse") v, .exc (He.ga K "NoRule") v, .exc (He.ga K "NoPass") v, .exc (He.ga K "NotFull") v, .exc (He.ga K "BadName") v, .exc (He.ga K "BadRows") v, .exc (He.ga K "BadSeen") v, .exc (He.ga K "Unfit") v, .exc (He.ga K "BadTool") v] ++ [.exc (He.ga K "BadLoad") v, .exc (He.ga K "BadPromise") v, .exc (He.ga K "BadPromises") v]))) := l3.trans (Kp.new h3)
  generalize up F3 p3 _ = G3 at *
  refine ⟨sz rfl, fun a4 g4 => ?_⟩
  have f4 : up G3 a4 (.lst [.exc (He.ga K "BadSigns") v, .exc (He.ga K "BadForms") v, .exc (He.ga K "OtherSigns") v]) a4 = some (.lst [.exc (He.ga K "BadSigns") v, .exc (He.ga K "BadForms") v, .exc (He.ga K "OtherSigns") v]) := up_same
  have l4 : Kp G3 (up G3 a4 (.lst [.exc (He.ga K "BadSigns") v, .exc (He.ga K "BadForms") v, .exc (He.ga K "OtherSigns") v])) := Kp.new g4
  generalize up G3 a4 _ = F4 at *
  refine lsM_lst (l4 _ _ e3) (lsM_lst f4 ⟨sz rfl, fun p4 h4 => ?_⟩)
  have e4 : up F4 p4 (.lst ([.exc (He.ga K "BadHouse") v, .exc (He.ga K "NoRule") v, .exc (He.ga K "NoPass") v, .exc (He.ga K "NotFull") v, .exc (He.ga K "BadName") v, .exc (He.ga K "BadRows") v, .exc (He.ga K "BadSeen") v, .exc (He.ga K "Unfit") v, .exc (He.ga K "BadTool") v, .exc (He.ga K "BadLoad") v, .exc (He.ga K "BadPromise") v, .exc (He.ga K "BadPromises") v] ++ [.exc (He.ga K "BadSigns") v, .exc (He.ga K "BadForms") v, .exc (He.ga K "OtherSigns") v])) p4 = some (.lst [.exc (He.ga K "BadHouse") v, .exc (He.ga K "NoRule") v, .exc (He.ga K "NoPass") v, .exc (He.ga K "NotFull") v, .exc (He.ga K "BadName") v, .exc (He.ga K "BadRows") v, .exc (He.ga K "BadSeen") v, .exc (He.ga K "Unfit") v, .exc (He.ga K "BadTool") v, .exc (He.ga K "BadLoad") v, .exc (He.ga K "BadPromise") v, .exc (He.ga K "BadPromises") v, .exc (He.ga K "BadSigns") v, .exc (He.ga K "BadForms") v, .exc (He.ga K "OtherSigns") v]) := up_same
  have k4 : Kp G3 (up F4 p4 (.lst ([.exc (He.ga K "BadHouse") v, .exc (He.ga K "NoRule") v, .exc (He.ga K "NoPass") v, .exc (He.ga K "NotFull") v, .exc (He.ga K "BadName") v, .exc (He.ga K "BadRows") v, .exc (He.ga K "BadSeen") v, .exc (He.ga K "Unfit") v, .exc (He.ga K "BadTool") v, .exc (He.ga K "BadLoad") v, .exc (He.ga K "BadPromise") v, .exc (He.ga K "BadPromises") v] ++ [.exc (He.ga K "BadSigns") v, .exc (He.ga K "BadForms") v, .exc (He.ga K "OtherSigns") v]))) := l4.trans (Kp.new h4)
  generalize up F4 p4 _ = G4 at *
  refine ⟨sz rfl, fun a5 g5 => ?_⟩
  have f5 : up G4 a5 (.lst [.exc (He.ga K "TooMany") v, .exc (He.ga K "BadLength") v, .exc (He.ga K "BadWork") v]) a5 = some (.lst [.exc (He.ga K "TooMany") v, .exc (He.ga K "BadLength") v, .exc (He.ga K "BadWork") v]) := up_same
  have l5 : Kp G4 (up G4 a5 (.lst [.exc (He.ga K "TooMany") v, .exc (He.ga K "BadLength") v, .exc (He.ga K "BadWork") v])) := Kp.new g5
  generalize up G4 a5 _ = F5 at *
  refine lsM_lst (l5 _ _ e4) (lsM_lst f5 ⟨sz rfl, fun p5 h5 => ?_⟩)
  have e5 : up F5 p5 (.lst ([.exc (He.ga K "BadHouse") v, .exc (He.ga K "NoRule") v, .exc (He.ga K "NoPass") v, .exc (He.ga K "NotFull") v, .exc (He.ga K "BadName") v, .exc (He.ga K "BadRows") v, .exc (He.ga K "BadSeen") v, .exc (He.ga K "Unfit") v, .exc (He.ga K "BadTool") v, .exc (He.ga K "BadLoad") v, .exc (He.ga K "BadPromise") v, .exc (He.ga K "BadPromises") v, .exc (He.ga K "BadSigns") v, .exc (He.ga K "BadForms") v, .exc (He.ga K "OtherSigns") v] ++ [.exc (He.ga K "TooMany") v, .exc (He.ga K "BadLength") v, .exc (He.ga K "BadWork") v])) p5 = some (.lst [.exc (He.ga K "BadHouse") v, .exc (He.ga K "NoRule") v, .exc (He.ga K "NoPass") v, .exc (He.ga K "NotFull") v, .exc (He.ga K "BadName") v, .exc (He.ga K "BadRows") v, .exc (He.ga K "BadSeen") v, .exc (He.ga K "Unfit") v, .exc (He.ga K "BadTool") v, .exc (He.ga K "BadLoad") v, .exc (He.ga K "BadPromise") v, .exc (He.ga K "BadPromises") v, .exc (He.ga K "BadSigns") v, .exc (He.ga K "BadForms") v, .exc (He.ga K "OtherSigns") v, .exc (He.ga K "TooMany") v, .exc (He.ga K "BadLength") v, .exc (He.ga K "BadWork") v]) := up_same
  have k5 : Kp G4 (up F5 p5 (.lst ([.exc (He.ga K "BadHouse") v, .exc (He.ga K "NoRule") v, .exc (He.ga K "NoPass") v, .exc (He.ga K "NotFull") v, .exc (He.ga K "BadName") v, .exc (He.ga K "BadRows") v, .exc (He.ga K "BadSeen") v, .exc (He.ga K "Unfit") v, .exc (He.ga K "BadTool") v, .exc (He.ga K "BadLoad") v, .exc (He.ga K "BadPromise") v, .exc (He.ga K "BadPromises") v, .exc (He.ga K "BadSigns") v, .exc (He.ga K "BadForms") v, .exc (He.ga K "OtherSigns") v] ++ [.exc (He.ga K "TooMany") v, .exc (He.ga K "BadLength") v, .exc (He.ga K "BadWork") v]))) := l5.trans (Kp.new h5)
  generalize up F5 p5 _ = G5 at *
  refine ⟨sz rfl, fun a6 g6 => ?_⟩
  have f6 : up G5 a6 (.lst [.exc (He.ga K "NoFile") v, .exc (He.ga K "BadChanges") v, .exc (He.ga K "BadOffers") v]) a6 = some (.lst [.exc (He.ga K "NoFile") v, .exc (He.ga K "BadChanges") v, .exc (He.ga K "BadOffers") v]) := up_same
  have l6 : Kp G5 (up G5 a6 (.lst [.exc (He.ga K "NoFile") v, .exc (He.ga K "BadChanges") v, .exc (He.ga K "BadOffers") v])) := Kp.new g6
  generalize up G5 a6 _ = F6 at *
  refine lsM_lst (l6 _ _ e5) (lsM_lst f6 ⟨sz rfl, fun p6 h6 => ?_⟩)
  have e6 : up F6 p6 (.lst ([.exc (He.ga K "BadHouse") v, .exc (He.ga K "NoRule") v, .exc (He.ga K "NoPass") v, .exc (He.ga K "NotFull") v, .exc (He.ga K "BadName") v, .exc (He.ga K "BadRows") v, .exc (He.ga K "BadSeen") v, .exc (He.ga K "Unfit") v, .exc (He.ga K "BadTool") v, .exc (He.ga K "BadLoad") v, .exc (He.ga K "BadPromise") v, .exc (He.ga K "BadPromises") v, .exc (He.ga K "BadSigns") v, .exc (He.ga K "BadForms") v, .exc (He.ga K "OtherSigns") v, .exc (He.ga K "TooMany") v, .exc (He.ga K "BadLength") v, .exc (He.ga K "BadWork") v] ++ [.exc (He.ga K "NoFile") v, .exc (He.ga K "BadChanges") v, .exc (He.ga K "BadOffers") v])) p6 = some (.lst [.exc (He.ga K "BadHouse") v, .exc (He.ga K "NoRule") v, .exc (He.ga K "NoPass") v, .exc (He.ga K "NotFull") v, .exc (He.ga K "BadName") v, .exc (He.ga K "BadRows") v, .exc (He.ga K "BadSeen") v, .exc (He.ga K "Unfit") v, .exc (He.ga K "BadTool") v, .exc (He.ga K "BadLoad") v, .exc (He.ga K "BadPromise") v, .exc (He.ga K "BadPromises") v, .exc (He.ga K "BadSigns") v, .exc (He.ga K "BadForms") v, .exc (He.ga K "OtherSigns") v, .exc (He.ga K "TooMany") v, .exc (He.ga K "BadLength") v, .exc (He.ga K "BadWork") v, .exc (He.ga K "NoFile") v, .exc (He.ga K "BadChanges") v, .exc (He.ga K "BadOffers") v]) := up_same
  have k6 : Kp G5 (up F6 p6 (.lst ([.exc (He.ga K "BadHouse") v, .exc (He.ga K "NoRule") v, .exc (He.ga K "NoPass") v, .exc (He.ga K "NotFull") v, .exc (He.ga K "BadName") v, .exc (He.ga K "BadRows") v, .exc (He.ga K "BadSeen") v, .exc (He.ga K "Unfit") v, .exc (He.ga K "BadTool") v, .exc (He.ga K "BadLoad") v, .exc (He.ga K "BadPromise") v, .exc (He.ga K "BadPromises") v, .exc (He.ga K "BadSigns") v, .exc (He.ga K "BadForms") v, .exc (He.ga K "OtherSigns") v, .exc (He.ga K "TooMany") v, .exc (He.ga K "BadLength") v, .exc (He.ga K "BadWork") v] ++ [.exc (He.ga K "NoFile") v, .exc (He.ga K "BadChanges") v, .exc (He.ga K "BadOffers") v]))) := l6.trans (Kp.new h6)
  generalize up F6 p6 _ = G6 at *
  refine ⟨sz rfl, fun a7 g7 => ?_⟩
  have f7 : up G6 a7 (.lst [.exc (He.ga K "BadLine") v, .exc (He.ga K "NoLine") v, .exc (He.ga K "Needed") v]) a7 = some (.lst [.exc (He.ga K "BadLine") v, .exc (He.ga K "NoLine") v, .exc (He.ga K "Needed") v]) := up_same
  have l7 : Kp G6 (up G6 a7 (.lst [.exc (He.ga K "BadLine") v, .exc (He.ga K "NoLine") v, .exc (He.ga K "Needed") v])) := Kp.new g7
  generalize up G6 a7 _ = F7 at *
  refine lsM_lst (l7 _ _ e6) (lsM_lst f7 ⟨sz rfl, fun p7 h7 => ?_⟩)
  have e7 : up F7 p7 (.lst ([.exc (He.ga K "BadHouse") v, .exc (He.ga K "NoRule") v, .exc (He.ga K "NoPass") v, .exc (He.ga K "NotFull") v, .exc (He.ga K "BadName") v, .exc (He.ga K "BadRows") v, .exc (He.ga K "BadSeen") v, .exc (He.ga K "Unfit") v, .exc (He.ga K "BadTool") v, .exc (He.ga K "BadLoad") v, .exc (He.ga K "BadPromise") v, .exc (He.ga K "BadPromises") v, .exc (He.ga K "BadSigns") v, .exc (He.ga K "BadForms") v, .exc (He.ga K "OtherSigns") v, .exc (He.ga K "TooMany") v, .exc (He.ga K "BadLength") v, .exc (He.ga K "BadWork") v, .exc (He.ga K "NoFile") v, .exc (He.ga K "BadChanges") v, .exc (He.ga K "BadOffers") v] ++ [.exc (He.ga K "BadLine") v, .exc (He.ga K "NoLine") v, .exc (He.ga K "Needed") v])) p7 = some (.lst [.exc (He.ga K "BadHouse") v, .exc (He.ga K "NoRule") v, .exc (He.ga K "NoPass") v, .exc (He.ga K "NotFull") v, .exc (He.ga K "BadName") v, .exc (He.ga K "BadRows") v, .exc (He.ga K "BadSeen") v, .exc (He.ga K "Unfit") v, .exc (He.ga K "BadTool") v, .exc (He.ga K "BadLoad") v, .exc (He.ga K "BadPromise") v, .exc (He.ga K "BadPromises") v, .exc (He.ga K "BadSigns") v, .exc (He.ga K "BadForms") v, .exc (He.ga K "OtherSigns") v, .exc (He.ga K "TooMany") v, .exc (He.ga K "BadLength") v, .exc (He.ga K "BadWork") v, .exc (He.ga K "NoFile") v, .exc (He.ga K "BadChanges") v, .exc (He.ga K "BadOffers") v, .exc (He.ga K "BadLine") v, .exc (He.ga K "NoLine") v, .exc (He.ga K "Needed") v]) := up_same
  have k7 : Kp G6 (up F7 p7 (.lst ([.exc (He.ga K "BadHouse") v, .exc (He.ga K "NoRule") v, .exc (He.ga K "NoPass") v, .exc (He.ga K "NotFull") v, .exc (He.ga K "BadName") v, .exc (He.ga K "BadRows") v, .exc (He.ga K "BadSeen") v, .exc (He.ga K "Unfit") v, .exc (He.ga K "BadTool") v, .exc (He.ga K "BadLoad") v, .exc (He.ga K "BadPromise") v, .exc (He.ga K "BadPromises") v, .exc (He.ga K "BadSigns") v, .exc (He.ga K "BadForms") v, .exc (He.ga K "OtherSigns") v, .exc (He.ga K "TooMany") v, .exc (He.ga K "BadLength") v, .exc (He.ga K "BadWork") v, .exc (He.ga K "NoFile") v, .exc (He.ga K "BadChanges") v, .exc (He.ga K "BadOffers") v] ++ [.exc (He.ga K "BadLine") v, .exc (He.ga K "NoLine") v, .exc (He.ga K "Needed") v]))) := l7.trans (Kp.new h7)
  generalize up F7 p7 _ = G7 at *
  refine ⟨sz rfl, fun a8 g8 => ?_⟩
  have f8 : up G7 a8 (.lst [.exc (He.ga K "NothingToUndo") v, .exc (He.ga K "NothingToRedo") v, .exc (He.ga K "NoTrial") v]) a8 = some (.lst [.exc (He.ga K "NothingToUndo") v, .exc (He.ga K "NothingToRedo") v, .exc (He.ga K "NoTrial") v]) := up_same
  have l8 : Kp G7 (up G7 a8 (.lst [.exc (He.ga K "NothingToUndo") v, .exc (He.ga K "NothingToRedo") v, .exc (He.ga K "NoTrial") v])) := Kp.new g8
  generalize up G7 a8 _ = F8 at *
  refine lsM_lst (l8 _ _ e7) (lsM_lst f8 ⟨sz rfl, fun p8 h8 => ?_⟩)
  have e8 : up F8 p8 (.lst ([.exc (He.ga K "BadHouse") v, .exc (He.ga K "NoRule") v, .exc (He.ga K "NoPass") v, .exc (He.ga K "NotFull") v, .exc (He.ga K "BadName") v, .exc (He.ga K "BadRows") v, .exc (He.ga K "BadSeen") v, .exc (He.ga K "Unfit") v, .exc (He.ga K "BadTool") v, .exc (He.ga K "BadLoad") v, .exc (He.ga K "BadPromise") v, .exc (He.ga K "BadPromises") v, .exc (He.ga K "BadSigns") v, .exc (He.ga K "BadForms") v, .exc (He.ga K "OtherSigns") v, .exc (He.ga K "TooMany") v, .exc (He.ga K "BadLength") v, .exc (He.ga K "BadWork") v, .exc (He.ga K "NoFile") v, .exc (He.ga K "BadChanges") v, .exc (He.ga K "BadOffers") v, .exc (He.ga K "BadLine") v, .exc (He.ga K "NoLine") v, .exc (He.ga K "Needed") v] ++ [.exc (He.ga K "NothingToUndo") v, .exc (He.ga K "NothingToRedo") v, .exc (He.ga K "NoTrial") v])) p8 = some (.lst [.exc (He.ga K "BadHouse") v, .exc (He.ga K "NoRule") v, .exc (He.ga K "NoPass") v, .exc (He.ga K "NotFull") v, .exc (He.ga K "BadName") v, .exc (He.ga K "BadRows") v, .exc (He.ga K "BadSeen") v, .exc (He.ga K "Unfit") v, .exc (He.ga K "BadTool") v, .exc (He.ga K "BadLoad") v, .exc (He.ga K "BadPromise") v, .exc (He.ga K "BadPromises") v, .exc (He.ga K "BadSigns") v, .exc (He.ga K "BadForms") v, .exc (He.ga K "OtherSigns") v, .exc (He.ga K "TooMany") v, .exc (He.ga K "BadLength") v, .exc (He.ga K "BadWork") v, .exc (He.ga K "NoFile") v, .exc (He.ga K "BadChanges") v, .exc (He.ga K "BadOffers") v, .exc (He.ga K "BadLine") v, .exc (He.ga K "NoLine") v, .exc (He.ga K "Needed") v, .exc (He.ga K "NothingToUndo") v, .exc (He.ga K "NothingToRedo") v, .exc (He.ga K "NoTrial") v]) := up_same
  have k8 : Kp G7 (up F8 p8 (.lst ([.exc (He.ga K "BadHouse") v, .exc (He.ga K "NoRule") v, .exc (He.ga K "NoPass") v, .exc (He.ga K "NotFull") v, .exc (He.ga K "BadName") v, .exc (He.ga K "BadRows") v, .exc (He.ga K "BadSeen") v, .exc (He.ga K "Unfit") v, .exc (He.ga K "BadTool") v, .exc (He.ga K "BadLoad") v, .exc (He.ga K "BadPromise") v, .exc (He.ga K "BadPromises") v, .exc (He.ga K "BadSigns") v, .exc (He.ga K "BadForms") v, .exc (He.ga K "OtherSigns") v, .exc (He.ga K "TooMany") v, .exc (He.ga K "BadLength") v, .exc (He.ga K "BadWork") v, .exc (He.ga K "NoFile") v, .exc (He.ga K "BadChanges") v, .exc (He.ga K "BadOffers") v, .exc (He.ga K "BadLine") v, .exc (He.ga K "NoLine") v, .exc (He.ga K "Needed") v] ++ [.exc (He.ga K "NothingToUndo") v, .exc (He.ga K "NothingToRedo") v, .exc (He.ga K "NoTrial") v]))) := l8.trans (Kp.new h8)
  generalize up F8 p8 _ = G8 at *
  refine ⟨sz rfl, fun a9 g9 => ?_⟩
  have f9 : up G8 a9 (.lst [.exc (He.ga K "BadJournal") v, .exc (He.ga K "BadSay") v]) a9 = some (.lst [.exc (He.ga K "BadJournal") v, .exc (He.ga K "BadSay") v]) := up_same
  have l9 : Kp G8 (up G8 a9 (.lst [.exc (He.ga K "BadJournal") v, .exc (He.ga K "BadSay") v])) := Kp.new g9
  generalize up G8 a9 _ = F9 at *
  refine lsM_lst (l9 _ _ e8) (lsM_lst f9 ⟨sz rfl, fun p9 h9 => ?_⟩)
  have e9 : up F9 p9 (.lst ([.exc (He.ga K "BadHouse") v, .exc (He.ga K "NoRule") v, .exc (He.ga K "NoPass") v, .exc (He.ga K "NotFull") v, .exc (He.ga K "BadName") v, .exc (He.ga K "BadRows") v, .exc (He.ga K "BadSeen") v, .exc (He.ga K "Unfit") v, .exc (He.ga K "BadTool") v, .exc (He.ga K "BadLoad") v, .exc (He.ga K "BadPromise") v, .exc (He.ga K "BadPromises") v, .exc (He.ga K "BadSigns") v, .exc (He.ga K "BadForms") v, .exc (He.ga K "OtherSigns") v, .exc (He.ga K "TooMany") v, .exc (He.ga K "BadLength") v, .exc (He.ga K "BadWork") v, .exc (He.ga K "NoFile") v, .exc (He.ga K "BadChanges") v, .exc (He.ga K "BadOffers") v, .exc (He.ga K "BadLine") v, .exc (He.ga K "NoLine") v, .exc (He.ga K "Needed") v, .exc (He.ga K "NothingToUndo") v, .exc (He.ga K "NothingToRedo") v, .exc (He.ga K "NoTrial") v] ++ [.exc (He.ga K "BadJournal") v, .exc (He.ga K "BadSay") v])) p9 = some (.lst [.exc (He.ga K "BadHouse") v, .exc (He.ga K "NoRule") v, .exc (He.ga K "NoPass") v, .exc (He.ga K "NotFull") v, .exc (He.ga K "BadName") v, .exc (He.ga K "BadRows") v, .exc (He.ga K "BadSeen") v, .exc (He.ga K "Unfit") v, .exc (He.ga K "BadTool") v, .exc (He.ga K "BadLoad") v, .exc (He.ga K "BadPromise") v, .exc (He.ga K "BadPromises") v, .exc (He.ga K "BadSigns") v, .exc (He.ga K "BadForms") v, .exc (He.ga K "OtherSigns") v, .exc (He.ga K "TooMany") v, .exc (He.ga K "BadLength") v, .exc (He.ga K "BadWork") v, .exc (He.ga K "NoFile") v, .exc (He.ga K "BadChanges") v, .exc (He.ga K "BadOffers") v, .exc (He.ga K "BadLine") v, .exc (He.ga K "NoLine") v, .exc (He.ga K "Needed") v, .exc (He.ga K "NothingToUndo") v, .exc (He.ga K "NothingToRedo") v, .exc (He.ga K "NoTrial") v, .exc (He.ga K "BadJournal") v, .exc (He.ga K "BadSay") v]) := up_same
  have k9 : Kp G8 (up F9 p9 (.lst ([.exc (He.ga K "BadHouse") v, .exc (He.ga K "NoRule") v, .exc (He.ga K "NoPass") v, .exc (He.ga K "NotFull") v, .exc (He.ga K "BadName") v, .exc (He.ga K "BadRows") v, .exc (He.ga K "BadSeen") v, .exc (He.ga K "Unfit") v, .exc (He.ga K "BadTool") v, .exc (He.ga K "BadLoad") v, .exc (He.ga K "BadPromise") v, .exc (He.ga K "BadPromises") v, .exc (He.ga K "BadSigns") v, .exc (He.ga K "BadForms") v, .exc (He.ga K "OtherSigns") v, .exc (He.ga K "TooMany") v, .exc (He.ga K "BadLength") v, .exc (He.ga K "BadWork") v, .exc (He.ga K "NoFile") v, .exc (He.ga K "BadChanges") v, .exc (He.ga K "BadOffers") v, .exc (He.ga K "BadLine") v, .exc (He.ga K "NoLine") v, .exc (He.ga K "Needed") v, .exc (He.ga K "NothingToUndo") v, .exc (He.ga K "NothingToRedo") v, .exc (He.ga K "NoTrial") v] ++ [.exc (He.ga K "BadJournal") v, .exc (He.ga K "BadSay") v]))) := l9.trans (Kp.new h9)
  exact hQ p9 _ (((((((((k0.trans k1).trans k2).trans k3).trans k4).trans k5).trans k6).trans k7).trans k8).trans k9) e9
def spMarks (K : PySem.W.Frag) : SpD := fun ds G Q _ => ∃ (C : Addr) (v : D) (f : Str → Bool), ds = [.exc C v] ∧ (∀ y ∈ NMS, PySem.W.kitOne K (.ref C) (.ref (He.ga K y)) = some (f y)) ∧ ∀ (q : Addr) (G' : Gp), Kp G G' → G' q = some (.lst (NMS.map fun x => .bl (f x))) → Q (.ref q) G'
theorem isiX {C T : Addr} {v : D} {G : Gp} {Q : KD} {b : Bool} (h : PySem.W.kitOne K (.ref C) (.ref T) = some b) : biR K .isi [.exc C v, .ref T] G Q = Q (.bl b) G := by
  simp only [biR, isiD, clsD, optD, h]
theorem isiXT {C : Addr} {T : String} {v : D} {G : Gp} {Q : KD} {b : Bool} (h : PySem.W.kitOne K (.ref C) (.type T) = some b) : biR K .isi [.exc C v, .ty T] G Q = Q (.bl b) G := by
  simp only [biR, isiD, clsD, optD, h]
theorem marks_hp (ds : List D) (G : Gp) (Q : D → Gp → Prop) (h : spMarks K ds G Q E) : (sem K m_law_marks).s { nx := fun _ G' => Q .non G', rt := Q, ex := fun C d _ G' => E C d G' } (startD N_law_marks ds) G := by
  obtain ⟨C, v, f, rfl, hf, hQ⟩ := h
  have st : startD N_law_marks [.exc C v] = [some (.exc C v), none] := rfl
  rw [st]
  unfold m_law_marks
  get_elem_tactic_trivial
  simp only [isiX (hf "BadHouse" (by decide +kernel)), isiX (hf "NoRule" (by decide +kernel)), isiX (hf "NoPass" (by decide +kernel)), isiX (hf "NotFull" (by decide +kernel)), isiX (hf "BadName" (by decide +kernel)), isiX (hf "BadRows" (by decide +kernel)), isiX (hf "BadSeen" (by decide +kernel)), isiX (hf "Unfit" (by decide +kernel)), isiX (hf "BadTool" (by decide +kernel)), isiX (hf "BadLoad" (by decide +kernel)), isiX (hf "BadPromise" (by decide +kernel)), isiX (hf "BadPromises" (by decide +kernel)), isiX (hf "BadSigns" (by decide +kernel)), isiX (hf "BadForms" (by decide +kernel)), isiX (hf "OtherSigns" (by decide +kernel)), isiX (hf "TooMany" (by decide +kernel)), isiX (hf "BadLength" (by decide +kernel)), isiX (hf "BadWork" (by decide +kernel)), isiX (hf "NoFile" (by decide +kernel)), isiX (hf "BadChanges" (by decide +kernel)), isiX (hf "BadOffers" (by decide +kernel)), isiX (hf "BadLine" (by decide +kernel)), isiX (hf "NoLine" (by decide +kernel)), isiX (hf "Needed" (by decide +kernel)), isiX (hf "NothingToUndo" (by decide +kernel)), isiX (hf "NothingToRedo" (by decide +kernel)), isiX (hf "NoTrial" (by decide +kernel)), isiX (hf "BadJournal" (by decide +kernel)), isiX (hf "BadSay" (by decide +kernel))]
  refine ⟨sz rfl, fun p0 h0 => ?_⟩
  have e0 : up G p0 (.lst [.bl (f "BadHouse"), .bl (f "NoRule"), .bl (f "NoPass")]) p0 = some (.lst [.bl (f "BadHouse"), .bl (f "NoRule"), .bl (f "NoPass")]) := up_same
  have k0 : Kp G (up G p0 (.lst [.bl (f "BadHouse"), .bl (f "NoRule"), .bl (f "NoPass")])) := Kp.new h0
  generalize up G p0 _ = G0 at *
  refine ⟨sz rfl, fun a1 g1 => ?_⟩
  have f1 : up G0 a1 (.lst [.bl (f "NotFull"), .bl (f "BadName"), .bl (f "BadRows")]) a1 = some (.lst [.bl (f "NotFull"), .bl (f "BadName"), .bl (f "BadRows")]) := up_same
  have l1 : Kp G0 (up G0 a1 (.lst [.bl (f "NotFull"), .bl (f "BadName"), .bl (f "BadRows")])) := Kp.new g1
  generalize up G0 a1 _ = F1 at *
  refine lsM_lst (l1 _ _ e0) (lsM_lst f1 ⟨sz rfl, fun p1 h1 => ?_⟩)
  have e1 : up F1 p1 (.lst ([.bl (f "BadHouse"), .bl (f "NoRule"), .bl (f "NoPass")] ++ [.bl (f "NotFull"), .bl (f "BadName"), .bl (f "BadRows")])) p1 = some (.lst [.bl (f "BadHouse"), .bl (f "NoRule"), .bl (f "NoPass"), .bl (f "NotFull"), .bl (f "BadName"), .bl (f "BadRows")]) := up_same
  have k1 : Kp G0 (up F1 p1 (.lst ([.bl (f "BadHouse"), .bl (f "NoRule"), .bl (f "NoPass")] ++ [.bl (f "NotFull"), .bl (f "BadName"), .bl (f "BadRows")]))) := l1.trans (Kp.new h1)
  generalize up F1 p1 _ = G1 at *
  refine ⟨sz rfl, fun a2 g2 => ?_⟩
  have f2 : up G1 a2 (.lst [.bl (f "BadSeen"), .bl (f "Unfit"), .bl (f "BadTool")]) a2 = some (.lst [.bl (f "BadSeen"), .bl (f "Unfit"), .bl (f "BadTool")]) := up_same
  have l2 : Kp G1 (up G1 a2 (.lst [.bl (f "BadSeen"), .bl (f "Unfit"), .bl (f "BadTool")])) := Kp.new g2
  generalize up G1 a2 _ = F2 at *
  refine lsM_lst (l2 _ _ e1) (lsM_lst f2 ⟨sz rfl, fun p2 h2 => ?_⟩)
  have e2 : up F2 p2 (.lst ([.bl (f "BadHouse"), .bl (f "NoRule"), .bl (f "NoPass"), .bl (f "NotFull"), .bl (f "BadName"), .bl (f "BadRows")] ++ [.bl (f "BadSeen"), .bl (f "Unfit"), .bl (f "BadTool")])) p2 = some (.lst [.bl (f "BadHouse"), .bl (f "NoRule"), .bl (f "NoPass"), .bl (f "NotFull"), .bl (f "BadName"), .bl (f "BadRows"), .bl (f "BadSeen"), .bl (f "Unfit"), .bl (f "BadTool")]) := up_same
  have k2 : Kp G1 (up F2 p2 (.lst ([.bl (f "BadHouse"), .bl (f "NoRule"), .bl (f "NoPass"), .bl (f "NotFull"), .bl (f "BadName"), .bl (f "BadRows")] ++ [.bl (f "BadSeen"), .bl (f "Unfit"), .bl (f "BadTool")]))) := l2.trans (Kp.new h2)
  generalize up F2 p2 _ = G2 at *
  refine ⟨sz rfl, fun a3 g3 => ?_⟩
  have f3 : up G2 a3 (.lst [.bl (f "BadLoad"), .bl (f "BadPromise"), .bl (f "BadPromises")]) a3 = some (.lst [.bl (f "BadLoad"), .bl (f "BadPromise"), .bl (f "BadPromises")]) := up_same
  have l3 : Kp G2 (up G2 a3 (.lst [.bl (f "BadLoad"), .bl (f "BadPromise"), .bl (f "BadPromises")])) := Kp.new g3
  generalize up G2 a3 _ = F3 at *
  refine lsM_lst (l3 _ _ e2) (lsM_lst f3 ⟨sz rfl, fun p3 h3 => ?_⟩)
  have e3 : up F3 p3 (.lst ([.bl (f "BadHouse"), .bl (f "NoRule"), .bl (f "NoPass"), .bl (f "NotFull"), .bl (f "BadName"), .bl (f "BadRows"), .bl (f "BadSeen"), .bl (f "Unfit"), .bl (f "BadTool")] ++ [.bl (f "BadLoad"), .bl (f "BadPromise"), .bl (f "BadPromises")])) p3 = some (.lst [.bl (f "BadHouse"), .bl (f "NoRule"), .bl (f "NoPass"), .bl (f "NotFull"), .bl (f "BadName"), .bl (f "BadRows"), .bl (f "BadSeen"), .bl (f "Unfit"), .bl (f "BadTool"), .bl (f "BadLoad"), .bl (f "BadPromise"), .bl (f "BadPromises")]) := up_same
  have k3 : Kp G2 (up F3 p3 (.lst ([.bl (f "BadHouse"), .bl (f "NoRule"), .bl (f "NoPass"), .bl (f "NotFull"), .bl (f "BadName"), .bl (f "BadRows"), .bl (f "BadSeen"), .bl (f "Unfit"), .bl (f "BadTool")] ++ [.bl (f "BadLoad"), .bl (f "BadPromise"), .bl (f "BadPromises")]))) := l3.trans (Kp.new h3)
  generalize up F3 p3 _ = G3 at *
  refine ⟨sz rfl, fun a4 g4 => ?_⟩
  have f4 : up G3 a4 (.lst [.bl (f "BadSigns"), .bl (f "BadForms"), .bl (f "OtherSigns")]) a4 = some (.lst [.bl (f "BadSigns"), .bl (f "BadForms"), .bl (f "OtherSigns")]) := up_same
  have l4 : Kp G3 (up G3 a4 (.lst [.bl (f "BadSigns"), .bl (f "BadForms"), .bl (f "OtherSigns")])) := Kp.new g4
  generalize up G3 a4 _ = F4 at *
  refine lsM_lst (l4 _ _ e3) (lsM_lst f4 ⟨sz rfl, fun p4 h4 => ?_⟩)
  have e4 : up F4 p4 (.lst ([.bl (f "BadHouse"), .bl (f "NoRule"), .bl (f "NoPass"), .bl (f "NotFull"), .bl (f "BadName"), .bl (f "BadRows"), .bl (f "BadSeen"), .bl (f "Unfit"), .bl (f "BadTool"), .bl (f "BadLoad"), .bl (f "BadPromise"), .bl (f "BadPromises")] ++ [.bl (f "BadSigns"), .bl (f "BadForms"), .bl (f "OtherSigns")])) p4 = some (.lst [.bl (f "BadHouse"), .bl (f "NoRule"), .bl (f "NoPass"), .bl (f "NotFull"), .bl (f "BadName"), .bl (f "BadRows"), .bl (f "BadSeen"), .bl (f "Unfit"), .bl (f "BadTool"), .bl (f "BadLoad"), .bl (f "BadPromise"), .bl (f "BadPromises"), .bl (f "BadSigns"), .bl (f "BadForms"), .bl (f "OtherSigns")]) := up_same
  have k4 : Kp G3 (up F4 p4 (.lst ([.bl (f "BadHouse"), .bl (f "NoRule"), .bl (f "NoPass"), .bl (f "NotFull"), .bl (f "BadName"), .bl (f "BadRows"), .bl (f "BadSeen"), .bl (f "Unfit"), .bl (f "BadTool"), .bl (f "BadLoad"), .bl (f "BadPromise"), .bl (f "BadPromises")] ++ [.bl (f "BadSigns"), .bl (f "BadForms"), .bl (f "OtherSigns")]))) := l4.trans (Kp.new h4)
  generalize up F4 p4 _ = G4 at *
  refine ⟨sz rfl, fun a5 g5 => ?_⟩
  have f5 : up G4 a5 (.lst [.bl (f "TooMany"), .bl (f "BadLength"), .bl (f "BadWork")]) a5 = some (.lst [.bl (f "TooMany"), .bl (f "BadLength"), .bl (f "BadWork")]) := up_same
  have l5 : Kp G4 (up G4 a5 (.lst [.bl (f "TooMany"), .bl (f "BadLength"), .bl (f "BadWork")])) := Kp.new g5
  generalize up G4 a5 _ = F5 at *
  refine lsM_lst (l5 _ _ e4) (lsM_lst f5 ⟨sz rfl, fun p5 h5 => ?_⟩)
  have e5 : up F5 p5 (.lst ([.bl (f "BadHouse"), .bl (f "NoRule"), .bl (f "NoPass"), .bl (f "NotFull"), .bl (f "BadName"), .bl (f "BadRows"), .bl (f "BadSeen"), .bl (f "Unfit"), .bl (f "BadTool"), .bl (f "BadLoad"), .bl (f "BadPromise"), .bl (f "BadPromises"), .bl (f "BadSigns"), .bl (f "BadForms"), .bl (f "OtherSigns")] ++ [.bl (f "TooMany"), .bl (f "BadLength"), .bl (f "BadWork")])) p5 = some (.lst [.bl (f "BadHouse"), .bl (f "NoRule"), .bl (f "NoPass"), .bl (f "NotFull"), .bl (f "BadName"), .bl (f "BadRows"), .bl (f "BadSeen"), .bl (f "Unfit"), .bl (f "BadTool"), .bl (f "BadLoad"), .bl (f "BadPromise"), .bl (f "BadPromises"), .bl (f "BadSigns"), .bl (f "BadForms"), .bl (f "OtherSigns"), .bl (f "TooMany"), .bl (f "BadLength"), .bl (f "BadWork")]) := up_same
  have k5 : Kp G4 (up F5 p5 (.lst ([.bl (f "BadHouse"), .bl (f "NoRule"), .bl (f "NoPass"), .bl (f "NotFull"), .bl (f "BadName"), .bl (f "BadRows"), .bl (f "BadSeen"), .bl (f "Unfit"), .bl (f "BadTool"), .bl (f "BadLoad"), .bl (f "BadPromise"), .bl (f "BadPromises"), .bl (f "BadSigns"), .bl (f "BadForms"), .bl (f "OtherSigns")] ++ [.bl (f "TooMany"), .bl (f "BadLength"), .bl (f "BadWork")]))) := l5.trans (Kp.new h5)
  generalize up F5 p5 _ = G5 at *
  refine ⟨sz rfl, fun a6 g6 => ?_⟩
  have f6 : up G5 a6 (.lst [.bl (f "NoFile"), .bl (f "BadChanges"), .bl (f "BadOffers")]) a6 = some (.lst [.bl (f "NoFile"), .bl (f "BadChanges"), .bl (f "BadOffers")]) := up_same
  have l6 : Kp G5 (up G5 a6 (.lst [.bl (f "NoFile"), .bl (f "BadChanges"), .bl (f "BadOffers")])) := Kp.new g6
  generalize up G5 a6 _ = F6 at *
  refine lsM_lst (l6 _ _ e5) (lsM_lst f6 ⟨sz rfl, fun p6 h6 => ?_⟩)
  have e6 : up F6 p6 (.lst ([.bl (f "BadHouse"), .bl (f "NoRule"), .bl (f "NoPass"), .bl (f "NotFull"), .bl (f "BadName"), .bl (f "BadRows"), .bl (f "BadSeen"), .bl (f "Unfit"), .bl (f "BadTool"), .bl (f "BadLoad"), .bl (f "BadPromise"), .bl (f "BadPromises"), .bl (f "BadSigns"), .bl (f "BadForms"), .bl (f "OtherSigns"), .bl (f "TooMany"), .bl (f "BadLength"), .bl (f "BadWork")] ++ [.bl (f "NoFile"), .bl (f "BadChanges"), .bl (f "BadOffers")])) p6 = some (.lst [.bl (f "BadHouse"), .bl (f "NoRule"), .bl (f "NoPass"), .bl (f "NotFull"), .bl (f "BadName"), .bl (f "BadRows"), .bl (f "BadSeen"), .bl (f "Unfit"), .bl (f "BadTool"), .bl (f "BadLoad"), .bl (f "BadPromise"), .bl (f "BadPromises"), .bl (f "BadSigns"), .bl (f "BadForms"), .bl (f "OtherSigns"), .bl (f "TooMany"), .bl (f "BadLength"), .bl (f "BadWork"), .bl (f "NoFile"), .bl (f "BadChanges"), .bl (f "BadOffers")]) := up_same
  have k6 : Kp G5 (up F6 p6 (.lst ([.bl (f "BadHouse"), .bl (f "NoRule"), .bl (f "NoPass"), .bl (f "NotFull"), .bl (f "BadName"), .bl (f "BadRows"), .bl (f "BadSeen"), .bl (f "Unfit"), .bl (f "BadTool"), .bl (f "BadLoad"), .bl (f "BadPromise"), .bl (f "BadPromises"), .bl (f "BadSigns"), .bl (f "BadForms"), .bl (f "OtherSigns"), .bl (f "TooMany"), .bl (f "BadLength"), .bl (f "BadWork")] ++ [.bl (f "NoFile"), .bl (f "BadChanges"), .bl (f "BadOffers")]))) := l6.trans (Kp.new h6)
  generalize up F6 p6 _ = G6 at *
  refine ⟨sz rfl, fun a7 g7 => ?_⟩
  have f7 : up G6 a7 (.lst [.bl (f "BadLine"), .bl (f "NoLine"), .bl (f "Needed")]) a7 = some (.lst [.bl (f "BadLine"), .bl (f "NoLine"), .bl (f "Needed")]) := up_same
  have l7 : Kp G6 (up G6 a7 (.lst [.bl (f "BadLine"), .bl (f "NoLine"), .bl (f "Needed")])) := Kp.new g7
  generalize up G6 a7 _ = F7 at *
  refine lsM_lst (l7 _ _ e6) (lsM_lst f7 ⟨sz rfl, fun p7 h7 => ?_⟩)
  have e7 : up F7 p7 (.lst ([.bl (f "BadHouse"), .bl (f "NoRule"), .bl (f "NoPass"), .bl (f "NotFull"), .bl (f "BadName"), .bl (f "BadRows"), .bl (f "BadSeen"), .bl (f "Unfit"), .bl (f "BadTool"), .bl (f "BadLoad"), .bl (f "BadPromise"), .bl (f "BadPromises"), .bl (f "BadSigns"), .bl (f "BadForms"), .bl (f "OtherSigns"), .bl (f "TooMany"), .bl (f "BadLength"), .bl (f "BadWork"), .bl (f "NoFile"), .bl (f "BadChanges"), .bl (f "BadOffers")] ++ [.bl (f "BadLine"), .bl (f "NoLine"), .bl (f "Needed")])) p7 = some (.lst [.bl (f "BadHouse"), .bl (f "NoRule"), .bl (f "NoPass"), .bl (f "NotFull"), .bl (f "BadName"), .bl (f "BadRows"), .bl (f "BadSeen"), .bl (f "Unfit"), .bl (f "BadTool"), .bl (f "BadLoad"), .bl (f "BadPromise"), .bl (f "BadPromises"), .bl (f "BadSigns"), .bl (f "BadForms"), .bl (f "OtherSigns"), .bl (f "TooMany"), .bl (f "BadLength"), .bl (f "BadWork"), .bl (f "NoFile"), .bl (f "BadChanges"), .bl (f "BadOffers"), .bl (f "BadLine"), .bl (f "NoLine"), .bl (f "Needed")]) := up_same
  have k7 : Kp G6 (up F7 p7 (.lst ([.bl (f "BadHouse"), .bl (f "NoRule"), .bl (f "NoPass"), .bl (f "NotFull"), .bl (f "BadName"), .bl (f "BadRows"), .bl (f "BadSeen"), .bl (f "Unfit"), .bl (f "BadTool"), .bl (f "BadLoad"), .bl (f "BadPromise"), .bl (f "BadPromises"), .bl (f "BadSigns"), .bl (f "BadForms"), .bl (f "OtherSigns"), .bl (f "TooMany"), .bl (f "BadLength"), .bl (f "BadWork"), .bl (f "NoFile"), .bl (f "BadChanges"), .bl (f "BadOffers")] ++ [.bl (f "BadLine"), .bl (f "NoLine"), .bl (f "Needed")]))) := l7.trans (Kp.new h7)
  generalize up F7 p7 _ = G7 at *
  refine ⟨sz rfl, fun a8 g8 => ?_⟩
  have f8 : up G7 a8 (.lst [.bl (f "NothingToUndo"), .bl (f "NothingToRedo"), .bl (f "NoTrial")]) a8 = some (.lst [.bl (f "NothingToUndo"), .bl (f "NothingToRedo"), .bl (f "NoTrial")]) := up_same
  have l8 : Kp G7 (up G7 a8 (.lst [.bl (f "NothingToUndo"), .bl (f "NothingToRedo"), .bl (f "NoTrial")])) := Kp.new g8
  generalize up G7 a8 _ = F8 at *
  refine lsM_lst (l8 _ _ e7) (lsM_lst f8 ⟨sz rfl, fun p8 h8 => ?_⟩)
  have e8 : up F8 p8 (.lst ([.bl (f "BadHouse"), .bl (f "NoRule"), .bl (f "NoPass"), .bl (f "NotFull"), .bl (f "BadName"), .bl (f "BadRows"), .bl (f "BadSeen"), .bl (f "Unfit"), .bl (f "BadTool"), .bl (f "BadLoad"), .bl (f "BadPromise"), .bl (f "BadPromises"), .bl (f "BadSigns"), .bl (f "BadForms"), .bl (f "OtherSigns"), .bl (f "TooMany"), .bl (f "BadLength"), .bl (f "BadWork"), .bl (f "NoFile"), .bl (f "BadChanges"), .bl (f "BadOffers"), .bl (f "BadLine"), .bl (f "NoLine"), .bl (f "Needed")] ++ [.bl (f "NothingToUndo"), .bl (f "NothingToRedo"), .bl (f "NoTrial")])) p8 = some (.lst [.bl (f "BadHouse"), .bl (f "NoRule"), .bl (f "NoPass"), .bl (f "NotFull"), .bl (f "BadName"), .bl (f "BadRows"), .bl (f "BadSeen"), .bl (f "Unfit"), .bl (f "BadTool"), .bl (f "BadLoad"), .bl (f "BadPromise"), .bl (f "BadPromises"), .bl (f "BadSigns"), .bl (f "BadForms"), .bl (f "OtherSigns"), .bl (f "TooMany"), .bl (f "BadLength"), .bl (f "BadWork"), .bl (f "NoFile"), .bl (f "BadChanges"), .bl (f "BadOffers"), .bl (f "BadLine"), .bl (f "NoLine"), .bl (f "Needed"), .bl (f "NothingToUndo"), .bl (f "NothingToRedo"), .bl (f "NoTrial")]) := up_same
  have k8 : Kp G7 (up F8 p8 (.lst ([.bl (f "BadHouse"), .bl (f "NoRule"), .bl (f "NoPass"), .bl (f "NotFull"), .bl (f "BadName"), .bl (f "BadRows"), .bl (f "BadSeen"), .bl (f "Unfit"), .bl (f "BadTool"), .bl (f "BadLoad"), .bl (f "BadPromise"), .bl (f "BadPromises"), .bl (f "BadSigns"), .bl (f "BadForms"), .bl (f "OtherSigns"), .bl (f "TooMany"), .bl (f "BadLength"), .bl (f "BadWork"), .bl (f "NoFile"), .bl (f "BadChanges"), .bl (f "BadOffers"), .bl (f "BadLine"), .bl (f "NoLine"), .bl (f "Needed")] ++ [.bl (f "NothingToUndo"), .bl (f "NothingToRedo"), .bl (f "NoTrial")]))) := l8.trans (Kp.new h8)
  generalize up F8 p8 _ = G8 at *
  refine ⟨sz rfl, fun a9 g9 => ?_⟩
  have f9 : up G8 a9 (.lst [.bl (f "BadJournal"), .bl (f "BadSay")]) a9 = some (.lst [.bl (f "BadJournal"), .bl (f "BadSay")]) := up_same
  have l9 : Kp G8 (up G8 a9 (.lst [.bl (f "BadJournal"), .bl (f "BadSay")])) := Kp.new g9
  generalize up G8 a9 _ = F9 at *
  refine lsM_lst (l9 _ _ e8) (lsM_lst f9 ⟨sz rfl, fun p9 h9 => ?_⟩)
  have e9 : up F9 p9 (.lst ([.bl (f "BadHouse"), .bl (f "NoRule"), .bl (f "NoPass"), .bl (f "NotFull"), .bl (f "BadName"), .bl (f "BadRows"), .bl (f "BadSeen"), .bl (f "Unfit"), .bl (f "BadTool"), .bl (f "BadLoad"), .bl (f "BadPromise"), .bl (f "BadPromises"), .bl (f "BadSigns"), .bl (f "BadForms"), .bl (f "OtherSigns"), .bl (f "TooMany"), .bl (f "BadLength"), .bl (f "BadWork"), .bl (f "NoFile"), .bl (f "BadChanges"), .bl (f "BadOffers"), .bl (f "BadLine"), .bl (f "NoLine"), .bl (f "Needed"), .bl (f "NothingToUndo"), .bl (f "NothingToRedo"), .bl (f "NoTrial")] ++ [.bl (f "BadJournal"), .bl (f "BadSay")])) p9 = some (.lst [.bl (f "BadHouse"), .bl (f "NoRule"), .bl (f "NoPass"), .bl (f "NotFull"), .bl (f "BadName"), .bl (f "BadRows"), .bl (f "BadSeen"), .bl (f "Unfit"), .bl (f "BadTool"), .bl (f "BadLoad"), .bl (f "BadPromise"), .bl (f "BadPromises"), .bl (f "BadSigns"), .bl (f "BadForms"), .bl (f "OtherSigns"), .bl (f "TooMany"), .bl (f "BadLength"), .bl (f "BadWork"), .bl (f "NoFile"), .bl (f "BadChanges"), .bl (f "BadOffers"), .bl (f "BadLine"), .bl (f "NoLine"), .bl (f "Needed"), .bl (f "NothingToUndo"), .bl (f "NothingToRedo"), .bl (f "NoTrial"), .bl (f "BadJournal"), .bl (f "BadSay")]) := up_same
  have k9 : Kp G8 (up F9 p9 (.lst ([.bl (f "BadHouse"), .bl (f "NoRule"), .bl (f "NoPass"), .bl (f "NotFull"), .bl (f "BadName"), .bl (f "BadRows"), .bl (f "BadSeen"), .bl (f "Unfit"), .bl (f "BadTool"), .bl (f "BadLoad"), .bl (f "BadPromise"), .bl (f "BadPromises"), .bl (f "BadSigns"), .bl (f "BadForms"), .bl (f "OtherSigns"), .bl (f "TooMany"), .bl (f "BadLength"), .bl (f "BadWork"), .bl (f "NoFile"), .bl (f "BadChanges"), .bl (f "BadOffers"), .bl (f "BadLine"), .bl (f "NoLine"), .bl (f "Needed"), .bl (f "NothingToUndo"), .bl (f "NothingToRedo"), .bl (f "NoTrial")] ++ [.bl (f "BadJournal"), .bl (f "BadSay")]))) := l9.trans (Kp.new h9)
  exact hQ p9 _ (((((((((k0.trans k1).trans k2).trans k3).trans k4).trans k5).trans k6).trans k7).trans k8).trans k9) e9
end
end LK
end
section
namespace LK
open PySem PySem.Spec PyProof.Rows L2 DL
local macro_rules | `(tactic| get_elem_tactic_trivial) => `(tactic| simp only [se_cst, st_cst, se_loc, st_loc, se_glo, st_glo, se_bty, st_bty, se_bin, st_bin, se_neg, st_neg, se_lis, st_lis, se_tpl, st_tpl, se_dic, st_dic, se_dic0, st_dic0, se_sub, st_sub, se_sli, st_sli, se_cal, st_cal, se_bca, st_bca, se_lrg, st_lrg, se_lco, st_lco, se_err, st_err, se_gcl, st_gcl, se_atv, st_atv, se_rev, st_rev, se_upp, st_upp, sa_nil, sps_nil, so_nil, ss_nil, sgs_nil, stt_nil, sn_nil, sa_cons, ss_cons, sgs_cons, sn_cons, stt_cons, san_1, san_2, sorr_1, sorr_2, stan_1, stan_2, stor_1, stor_2, sps_pr, so_som, se_nt, st_nt, se_And, st_And, se_Or, st_Or, se_cmp, st_cmp, se_ch2, st_ch2, se_ife, st_ife, si_iva, si_irg, si_ien, ss_exp, ss_ret, ss_retN, ss_asn, ss_par, ss_iff, ss_whl, ss_fr, ss_pas, ss_brk, ss_con, ss_nev, sg_tna, sg_ttu, sg_tsu, cR_non, cR_bool, cR_int, cR_str, sSeq, sIf, sAsg, sRet, sNext, dOp2, dVar, dCst, dCmpT, dBca, dCons, dNil, gdName, gdSub, dLst, dTup, dIfE, dCall, dLrg, dDic0, dDic, dPairs, dUn, negD, dAndT, dOrT, dNotT, dSli, dNoPart, dPart, sPar, dRev, dUpp, dErr, dVal, dTru, sFor, iEnum1, gdTup, gdCons, gdNil, dLc, iRange1, dAndV, dOrV, List.getElem?_cons_zero, List.getElem?_cons_succ, List.set_cons_zero, List.set_cons_succ])

def abP : List PyData := pairP (.str "a") (.str "b") (strP "a") (strP "b")
def topP : List PyData := pairP (.tuple [.str "a", .str "b"]) (.int 3) abP (intP 3)
def rightP : List PyData := oddP ++ (topP ++ (oddP.map (fun q => .list [q]) ++ oddP.map (fun q => .dict [(.str "a", q)])))
def spBent : SpD := spB 20 [(.tup [.tup [.str "a", .str "b"], .int 3], topP)]
def spRight : SpD := fun ds G Q _ => ∃ (p : Addr) (n : Nat), ds = [.ref p] ∧ Pot n G p ∧ n < 1000 ∧ ∀ G', Ext p G G' → Q (.bl true) G'
structure Errs (K : PySem.W.Frag) : Prop where
  xy : ∀ x ∈ NMS, ∀ y ∈ NMS, PySem.W.kitOne K (.ref (He.ga K x)) (.ref (He.ga K y)) = some (decide (x = y))
  xo : ∀ x ∈ NMS, PySem.W.kitOne K (.ref (He.ga K x)) (.ref (He.ga K "OrderError")) = some true
  xv : ∀ x ∈ NMS, PySem.W.kitOne K (.ref (He.ga K x)) (.type "ValueError") = some true
  oy : ∀ y ∈ NMS, PySem.W.kitOne K (.ref (He.ga K "OrderError")) (.ref (He.ga K y)) = some false
  ov : PySem.W.kitOne K (.ref (He.ga K "OrderError")) (.type "ValueError") = some true
def good (q : PyData) : Bool := q.showable && decide (q.depth ≤ 64) && decide (q.shown.length ≤ sizeLine)
theorem allGood : rightP.all good = true := by decide +kernel
theorem good_repr {q : PyData} (h : q ∈ rightP) : q.showable = true ∧ q.depth ≤ 64 ∧ q.shown.length ≤ sizeLine := by
  have := List.all_eq_true.mp allGood q h
  unfold good at this
  obtain ⟨h1, h3⟩ := an this
  obtain ⟨h1, h2⟩ := an h1
  exact ⟨h1, of_decide_eq_true h2, of_decide_eq_true h3⟩
theorem right_mem {q q1 q2 q3 q4 : PyData} (h1 : q1 ∈ oddP) (h2 : q2 ∈ topP) (h3 : q3 ∈ oddP) (h4 : q4 ∈ oddP) (h : q = q1 ∨ q = q2 ∨ q = .list [q3] ∨ q = .dict [(.str "a", q4)]) : q ∈ rightP := by
  unfold rightP
  rw [List.mem_append, List.mem_append, List.mem_append, List.mem_map, List.mem_map]
  rcases h with h | h | h | h
  · exact .inl (h ▸ h1)
  · exact .inr (.inl (h ▸ h2))
  · exact .inr (.inr (.inl ⟨q3, h3, h.symm⟩))
  · exact .inr (.inr (.inr ⟨q4, h4, h.symm⟩))
section
variable {K : PySem.W.Frag} {E : Addr → D → Gp → Prop}
theorem reprV {p : Addr} {G : Gp} {d : D} {q : PyData} {Q : KD} (h : Val p G d q) (m : q ∈ rightP) (hq : Q (.str q.shown) G) : biR K .repr [d] G Q := by
  obtain ⟨n, e⟩ := h.deep
  obtain ⟨h1, h2, h3⟩ := good_repr m
  exact ⟨n, q, e, h1, h2, h3, hq⟩
theorem en1_lst {p : Addr} {xs : List D} {G : Gp} {R : ItD → Prop} (h : G p = some (.lst xs)) (q : R ⟨pairsE xs, okL p xs⟩) : en1 [.ref p] G R := lsAt_lst h q
theorem pair_at {xs : List D} {v : D} {i : Nat} {x : D} (hxs : xs = NMS.map fun x => D.exc (He.ga K x) v) (hx : (pairsE xs)[i]? = some x) : ∃ nm, NMS[i]? = some nm ∧ nm ∈ NMS ∧ x = .tup [.int (i : Nat), .exc (He.ga K nm) v] := by
  unfold pairsE at hx
  rw [List.getElem?_mapIdx, hxs, List.getElem?_map] at hx
  cases e : NMS[i]? with
  | none => rw [e] at hx; cases hx
  | some nm =>
    rw [e] at hx
    cases hx
    exact ⟨nm, rfl, List.mem_of_getElem? e, rfl⟩
theorem neS {a : Str} {G : Gp} {k : Bool → Prop} : cmpR .NotEq (.str a) (.str a) G k = k (!true) := by
  show k (!decide (a = a)) = _
  rw [decide_eq_true rfl]
theorem eqS {a : Str} {G : Gp} {Q : KD} : DL.cmp .Eq (.str a) (.str a) G Q = Q (.bl true) G := by
  show Q (.bl (decide (a = a))) G = _
  rw [decide_eq_true rfl]
theorem deep_bools {G : Gp} {r : Addr} {bs : List Bool} (h : G r = some (.lst (bs.map .bl))) : deep G 2 (.ref r) = some (.list (bs.map .bool)) := by
  have : ∀ bs : List Bool, (bs.map D.bl).mapM (deep G 1) = some (bs.map .bool) := fun bs => by
    induction bs with
    | nil => rfl
    | cons b bs ih => rw [List.map_cons, List.mapM_cons, ih]; rfl
  simp only [deep, h, this]
  rfl
theorem marks_all : ∀ i : Fin 29, (NMS.map fun y => decide (NMS.getD i "" = y)) = ((List.range 29).map fun j => decide (((i : Nat) : Int) = 0 + ((j : Nat) : Int))) ∧ SeqAt.shaped (.list ((NMS.map fun y => decide (NMS.getD i "" = y)).map .bool)) = true ∧
    PyData.eqv (.list ((NMS.map fun y => decide (NMS.getD i "" = y)).map .bool)) (.list ((NMS.map fun y => decide (NMS.getD i "" = y)).map .bool)) = true := by decide +kernel
theorem marks_eq (i : Fin 29) (nm : Str) (h : NMS[(i : Nat)]? = some nm) : (NMS.map fun y => decide (nm = y)) = ((List.range 29).map fun j => decide (((i : Nat) : Int) = 0 + ((j : Nat) : Int))) ∧ SeqAt.shaped (.list ((NMS.map fun y => decide (nm = y)).map .bool)) = true ∧
    PyData.eqv (.list ((NMS.map fun y => decide (nm = y)).map .bool)) (.list ((NMS.map fun y => decide (nm = y)).map .bool)) = true := by
  have e : NMS.getD i "" = nm := by rw [List.getD_eq_getElem?_getD, h]; rfl
  have := marks_all i
  rwa [e] at this
theorem right_hp (X : Errs K) (ds : List D) (G : Gp) (Q : D → Gp → Prop) (h : spRight ds G Q E) : (sem K (m_law_right spOf spOdd spBent (spMade K) (spMarks K))).s { nx := fun _ G' => Q .non G', rt := Q, ex := fun C d _ G' => E C d G' } (startD N_law_right ds) G := by
  obtain ⟨p, n, rfl, hP, hn, hQ⟩ := h
  have st : startD N_law_right [.ref p] = [some (.ref p), none, none, none, none, none, none] := rfl
  rw [st]
  unfold m_law_right
  get_elem_tactic_trivial
  refine ⟨p, n, rfl, hP, by omega, fun d1 q1 G1 hq1 hv1 P1 x1 => ?_⟩
  refine ⟨sz rfl, sz rfl, ?_⟩
  refine ⟨p, _, topP, n + 1, rfl, List.mem_cons_self .., P1, by omega, fun d2 q2 G2 hq2 hv2 P2 x2 => ?_⟩
  refine ⟨p, n + 1 + 20, rfl, P2, by omega, fun d3 q3 G3 hq3 hv3 P3 x3 => ?_⟩
  refine ⟨sz rfl, fun a1 h1 => ?_⟩
  obtain ⟨n1, e1, k1, P4⟩ := alF (o := .lst [d3]) P3 h1
  generalize up G3 a1 _ = G4 at *
  intro a2 h2
  obtain ⟨n2, e2, k2, P5⟩ := alF (o := .dk []) P4 h2
  generalize up G4 a2 _ = G5 at *
  refine ⟨p, n + 1 + 20 + 1, rfl, P5, by omega, fun d4 q4 G6 hq4 hv4 P6 x6 => ?_⟩
  refine ⟨x6 _ _ n2 e2, ?_⟩
  show _ ∧ _
  have e7 : up G6 a2 (.dk (mergeD [] [(Sum.inr "a", d4)])) a2 = some (.dk [(Sum.inr "a", d4)]) := up_same
  have x67 : Ext p G4 (up G6 a2 (.dk (mergeD [] [(Sum.inr "a", d4)]))) := fun a o ha z => by
    rw [up_ne (fun w => by rw [w, h2] at z; cases z)]
    exact x6 a o ha (k2 a o z)
  have P7 : Pot (n + 1 + 20 + 1 + 1) (up G6 a2 (.dk (mergeD [] [(Sum.inr "a", d4)]))) p := by
    obtain ⟨o, m, c, z, r⟩ := P6
    exact ⟨o, m, c, by rw [up_ne (Ne.symm n2)]; exact z, r⟩
  have v4 : Val p (up G6 a2 (.dk (mergeD [] [(Sum.inr "a", d4)]))) d4 q4 := Vl.kp (F' := Gm p (up G6 a2 (.dk (mergeD [] [(Sum.inr "a", d4)])))) (fun a o e => by
    obtain ⟨z1, z2⟩ := New_of e
    rw [Gm_ne (fun w => by obtain ⟨_, _, _, y, _⟩ := P5; rw [w, y] at z1; cases z1), up_ne (fun w => by rw [w, e2] at z1; cases z1)]
    exact z2) hv4
  generalize up G6 a2 (.dk (mergeD [] [(Sum.inr "a", d4)])) = G7 at *
  have pn : ∀ {m : Nat} {H : Gp}, Pot m H p → H p ≠ none := fun h z => by obtain ⟨_, _, _, y, _⟩ := h; rw [z] at y; cases y
  have u1 : Val p G7 d1 q1 := (hv1.val (pn hP)).ext (x2.trans (x3.trans (k1.ext.trans x67)))
  have u2 : Val p G7 d2 q2 := hv2.ext (x3.trans (k1.ext.trans x67))
  have u3 : Val p G7 d3 q3 := (hv3.val (pn P2)).ext (k1.ext.trans x67)
  have w3 : Val p G7 (.ref a1) (.list [q3]) := val_lst n1 (x67 _ _ n1 e1) (vcons u3 vnil)
  have w4 : Val p G7 (.ref a2) (.dict [(kPy (Sum.inr "a"), q4)]) := val_dk1 n2 e7 v4
  refine ⟨show 1 ≤ 15 by decide, sz rfl, fun a3 h3 => ?_⟩
  obtain ⟨n3, e3, k3, P8⟩ := alF (o := .lst [d1, d2, .ref a1, .ref a2]) P7 h3
  show spOf [.ref p, .ref a3] (up G7 a3 (.lst [d1, d2, .ref a1, .ref a2])) _ (fun C d G2 => E C d G2)
  generalize up G7 a3 _ = G8 at *
  refine ⟨p, a3, _, _, rfl, P8, by omega, Ne.symm n3, e3, by simp, Nat.lt_of_le_of_lt (Nat.le_of_ble_eq_true (show Nat.ble _ 1000 = true from rfl)) (by decide), fun v G9 hx P9 x9 => ?_⟩
  have vl : ValL p G8 [d1, d2, .ref a1, .ref a2] [q1, q2, .list [q3], .dict [(.str "a", q4)]] := vcons (u1.kp k3) (vcons (u2.kp k3) (vcons (w3.kp k3) (vcons (w4.kp k3) vnil)))
  obtain ⟨q, hq, hv⟩ := vl.mem hx
  have hqr : q ∈ rightP := by
    have : q = q1 ∨ q = q2 ∨ q = .list [q3] ∨ q = .dict [(.str "a", q4)] := by simpa using hq
    exact right_mem hq1 hq2 hq3 hq4 this
  have v9 : Val p G9 v q := hv.ext x9
  have xall : Ext p G G9 := x1.trans (x2.trans (x3.trans (k1.ext.trans (x67.trans (k3.ext.trans x9)))))
  clear hq hv vl w3 w4 u1 u2 u3 v4 hx x9 x67 x1 x2 x3 x6 hv1 hv2 hv3 hv4
  refine ⟨v, rfl, fun mk G10 k10 e10 => ?_⟩
  have v10 : Val p G10 v q := v9.kp k10
  obtain ⟨xs, hxs⟩ : ∃ xs, xs = NMS.map fun x => D.exc (He.ga K x) v := ⟨_, rfl⟩
  rw [← hxs] at e10
  refine en1_lst e10 ?_
  show loopD _ _ _ _ _ _ _
  refine for_inv (J := fun i σ H => (∃ x y, σ = [some (.ref p), some v, some (.ref mk), x, y, none, none]) ∧ Kp G10 H) _ _ _ 0 ?_ ⟨⟨none, none, rfl⟩, Kp.refl⟩ ?_ ?_
  · exact fun i σ H hJ => hJ.2 _ _ e10
  · intro i x hx σ H next hJ hn
    obtain ⟨nm, hnm, hmem, rfl⟩ := pair_at hxs hx
    obtain ⟨⟨x0, y0, rfl⟩, kH⟩ := hJ
    refine ⟨rfl, ?_⟩
    get_elem_tactic_trivial
    simp only [isiX (X.xo nm hmem), isiXT (X.xv nm hmem), truB, Bool.not_true, Bool.false_eq_true, if_false]
    refine reprV (v10.kp kH) hqr ?_
    refine reprV (v10.kp kH) hqr ?_
    simp only [neS, Bool.not_true, Bool.false_eq_true, if_false]
    have hl : xs.length = 29 := by rw [hxs, List.length_map]; decide +kernel
    refine ⟨_, v, fun y => decide (nm = y), rfl, X.xy nm hmem, fun mq G11 k11 e11 => ?_⟩
    have e11k : G11 mk = some (.lst xs) := (kH.trans k11) _ _ e10
    simp only [lenR e11k]
    refine ⟨by omega, by omega, ?_⟩
    intro pl hpl
    have hne : mq ≠ pl := fun z => by rw [z, hpl] at e11; cases e11
    refine lc_pure (f := fun d => match d with | .int j => .bl (decide ((i : Int) = j)) | _ => .non) _ [] _ _ (fun _ => trivial) ?_ up_same ?_ ?_
    · intro x hx H' Q' hq'
      obtain ⟨j, _, rfl⟩ := List.mem_map.mp hx
      exact hq'
    · rw [List.length_map, List.length_range, List.length_nil, hl]
      exact sz rfl
    · intro G12 e12 o12
      have k12 : Kp G11 G12 := fun a o z => by
        rw [o12 a (fun w => by rw [w, hpl] at z; cases z), up_ne (fun w => by rw [w, hpl] at z; cases z)]
        exact z
      have hi : i < 29 := by
        have := (List.getElem?_eq_some_iff.mp hnm).1
        rwa [show NMS.length = 29 by decide +kernel] at this
      obtain ⟨b1, b2, b3⟩ := marks_eq ⟨i, hi⟩ nm hnm
      have d1 : deep G12 2 (.ref mq) = some (.list ((NMS.map fun y => decide (nm = y)).map .bool)) := deep_bools (by rw [k12 _ _ e11, List.map_map]; rfl)
      have d2 : deep G12 2 (.ref pl) = some (.list (((List.range 29).map fun j => decide ((i : Int) = 0 + ((j : Nat) : Int))).map .bool)) := deep_bools (by rw [e12, hl, List.map_map, List.map_map, List.nil_append]; rfl)
      refine ⟨2, _, _, d1, d2, b2, by rw [← b1]; exact b2, ?_⟩
      rw [← b1, b3]
      simp only [Bool.not_true, Bool.false_eq_true, if_false]
      exact hn _ _ ⟨⟨_, _, rfl⟩, kH.trans (k11.trans k12)⟩
  · intro σ H hJ
    obtain ⟨⟨x0, y0, rfl⟩, kH⟩ := hJ
    get_elem_tactic_trivial
    refine reprV (v10.kp kH) hqr ?_
    refine reprV (v10.kp kH) hqr ?_
    simp only [eqS, truB, if_true, isiXT X.ov, dNotV, dBca, dCons, dCall, dVar, dNil, List.getElem?_cons_zero, List.getElem?_cons_succ]
    refine ⟨_, v, fun _ => false, rfl, X.oy, fun mq G11 k11 e11 => ?_⟩
    have : biR K .any [.ref mq] G11 = fun Q' : KD => Q' (.bl false) G11 := by
      funext Q'
      simp only [biR, lsD, lsAt, e11, optD]
      rfl
    simp only [this, truB]
    exact hQ _ (xall.trans (k10.trans (kH.trans k11)).ext)
end
end LK
end
section
namespace LK
open PySem PySem.Spec PyProof.Rows L2 DL
local macro_rules | `(tactic| get_elem_tactic_trivial) => `(tactic| simp only [se_cst, st_cst, se_loc, st_loc, se_glo, st_glo, se_bty, st_bty, se_bin, st_bin, se_neg, st_neg, se_lis, st_lis, se_tpl, st_tpl, se_dic, st_dic, se_dic0, st_dic0, se_sub, st_sub, se_sli, st_sli, se_cal, st_cal, se_bca, st_bca, se_lrg, st_lrg, se_lco, st_lco, se_err, st_err, se_gcl, st_gcl, se_atv, st_atv, se_rev, st_rev, se_upp, st_upp, sa_nil, sps_nil, so_nil, ss_nil, sgs_nil, stt_nil, sn_nil, sa_cons, ss_cons, sgs_cons, sn_cons, stt_cons, san_1, san_2, sorr_1, sorr_2, stan_1, stan_2, stor_1, stor_2, sps_pr, so_som, se_nt, st_nt, se_And, st_And, se_Or, st_Or, se_cmp, st_cmp, se_ch2, st_ch2, se_ife, st_ife, si_iva, si_irg, si_ien, ss_exp, ss_ret, ss_retN, ss_asn, ss_par, ss_iff, ss_whl, ss_fr, ss_pas, ss_brk, ss_con, ss_nev, sg_tna, sg_ttu, sg_tsu, cR_non, cR_bool, cR_int, cR_str, sSeq, sIf, sAsg, sRet, sNext, dOp2, dVar, dCst, dCmpT, dBca, dCons, dNil, gdName, gdSub, dLst, dTup, dIfE, dCall, dLrg, dDic0, dDic, dPairs, dUn, negD, dAndT, dOrT, dNotT, dSli, dNoPart, dPart, sPar, dRev, dUpp, dErr, dVal, dTru, sFor, iEnum1, gdTup, gdCons, gdNil, dLc, iRange1, iVal, dAndV, dOrV, List.getElem?_cons_zero, List.getElem?_cons_succ, List.set_cons_zero, List.set_cons_succ])

def spLaw : SpD := fun ds G Q _ => ∃ ns : List Int, ds = [.fls (ns.map .int)] ∧ ∀ G', Q (.bl true) G'
section
variable {K : PySem.W.Frag} {E : Addr → D → Gp → Prop}
theorem bls_true : ∀ {ys : List D}, (∀ y ∈ ys, y = .bl true) → ∃ bs, blsD ys = some bs ∧ bs.all id = true
  | [], _ => ⟨[], rfl, rfl⟩
  | y :: ys, h => by
    obtain ⟨bs, e, a⟩ := bls_true fun z hz => h z (List.mem_cons_of_mem _ hz)
    have := h y (List.mem_cons_self ..)
    subst this
    exact ⟨true :: bs, by simp only [blsD, e]; rfl, by rw [List.all_cons, a]; rfl⟩
theorem allT {r : Addr} {ys : List D} {G : Gp} {Q : KD} (h : G r = some (.lst ys)) (hy : ∀ y ∈ ys, y = .bl true) (q : Q (.bl true) G) : biR K .all [.ref r] G Q := by
  obtain ⟨bs, e, a⟩ := bls_true hy
  simp only [biR, lsD, lsAt, h, optD, e, a]
  exact q
theorem itR {r : Addr} {ys : List D} {G : Gp} {R : ItD → Prop} (h : G r = some (.lst ys)) (q : R ⟨ys, okL r ys⟩) : itOf (.ref r) G R := lsAt_lst h q
theorem law_hp (ds : List D) (G : Gp) (Q : D → Gp → Prop) (h : spLaw ds G Q E) : (sem K (m_law spPot spCells spRight)).s { nx := fun _ G' => Q .non G', rt := Q, ex := fun C d _ G' => E C d G' } (startD N_law ds) G := by
  obtain ⟨ns, rfl, hQ⟩ := h
  have st : startD N_law [.fls (ns.map .int)] = [some (.fls (ns.map .int)), none] := rfl
  rw [st]
  unfold m_law
  get_elem_tactic_trivial
  refine ⟨ns, 4, rfl, by decide, by decide, fun j r hj1 hj2 hr => ?_⟩
  have er : up G r (.lst ((List.range j).map fun i => .int (i : Nat))) r = some (.lst ((List.range j).map fun i => .int (i : Nat))) := up_same
  generalize up G r _ = G1 at er ⊢
  obtain ⟨xs, hxs⟩ : ∃ xs : List D, xs = (List.range j).map fun i => .int (i : Nat) := ⟨_, rfl⟩
  rw [← hxs] at er
  refine itR er fun p hp => ?_
  have hpr : p ≠ r := fun z => by rw [z, er] at hp; cases hp
  refine lc_gen (J := fun H => H r = some (.lst xs)) (P := fun y => y = .bl true) _ [] _ _ (fun H h => h) (fun H o h => by rw [up_ne (Ne.symm hpr)]; exact h) (by rw [up_ne (Ne.symm hpr)]; exact er) ?_ up_same ?_ ?_
  · intro x hx H Q' hJ hne hq
    rw [hxs] at hx
    obtain ⟨i, hi, rfl⟩ := List.mem_map.mp hx
    have hi := List.mem_range.mp hi
    have hw : List.set (wipeD [some (D.fls (List.map D.int ns)), none] (List.map (fun x => x.snd) [(("_law_place" : Str), 1)])) 1 (some (D.int ((i : Nat) : Int))) = [some (D.fls (List.map D.int ns)), some (D.int ((i : Nat) : Int))] := rfl
    rw [hw]
    get_elem_tactic_trivial
    refine ⟨ns, i, rfl, by omega, by omega, fun q G2 hq0 hP k2 => ?_⟩
    refine ⟨q, 0, rfl, hP, by decide, fun G3 x3 => hq _ _ rfl ?_ ?_⟩
    · exact x3 _ _ (fun z => by rw [z, hq0] at hJ; cases hJ) (k2 _ _ hJ)
    · cases e : H p with
      | none => exact absurd e hne
      | some o => exact x3 _ _ (fun z => by rw [z, hq0] at e; cases e) (k2 _ _ e)
  · show 0 + xs.length ≤ sizeLine
    rw [hxs, List.length_map, List.length_range, sizeLine_eq]
    omega
  · intro G' ys h1 h2 h3 h4
    exact allT h4 h2 (hQ _)
end
end LK
end
section
namespace LK
open PySem PySem.Spec PyProof.Rows L2 DL
def fn : List He.DefD := [topD "_law_pot" (top 32), topD "_law_take" (top 33), topD "_law_of" (top 34), topD "_law_cells" (top 35), topD "_law_odd" (top 36), topD "_law_bent" (top 37), topD "_law_made" (top 38), topD "_law_marks" (top 39), topD "_law_right" (top 40), topD "law" (top 41)]
def fa : List He.Fa := ([.glo "_law_pot", .glo "_law_take", .glo "_law_of", .glo "_law_cells", .glo "_law_odd", .glo "_law_bent", .glo "_law_made", .glo "_law_marks", .glo "_law_right", .glo "law", .glo "OrderError", .glo "BadHouse"] : List He.Fa) ++ ([.glo "NoRule", .glo "NoPass", .glo "NotFull", .glo "BadName", .glo "BadRows", .glo "BadSeen", .glo "Unfit", .glo "BadTool", .glo "BadLoad", .glo "BadPromise", .glo "BadPromises", .glo "BadSigns"] : List He.Fa) ++ ([.glo "BadForms", .glo "OtherSigns", .glo "TooMany", .glo "BadLength", .glo "BadWork", .glo "NoFile", .glo "BadChanges", .glo "BadOffers", .glo "BadLine", .glo "NoLine", .glo "Needed", .glo "NothingToUndo"] : List He.Fa) ++ ([.glo "NothingToRedo", .glo "NoTrial", .glo "BadJournal", .glo "BadSay", .free "abs", .free "int", .free "len", .free "list", .free "max", .free "min", .free "range", .free "isinstance"] : List He.Fa) ++ ([.free "str", .free "tuple", .free "bool", .free "enumerate", .free "repr", .free "any", .free "all", .free "ValueError"] : List He.Fa)
def OE (K : PySem.W.Frag) : Addr := He.ga K "OrderError"
def fI (K : PySem.W.Frag) : Addr := He.ma K (OE K) "__init__"
def errsB (K : PySem.W.Frag) : Bool := (NMS.all fun x => NMS.all fun y => decide (PySem.W.kitOne K (.ref (He.ga K x)) (.ref (He.ga K y)) = some (decide (x = y)))) && (NMS.all fun x => decide (PySem.W.kitOne K (.ref (He.ga K x)) (.ref (He.ga K "OrderError")) = some true)) &&
  (NMS.all fun x => decide (PySem.W.kitOne K (.ref (He.ga K x)) (.type "ValueError") = some true)) && (NMS.all fun y => decide (PySem.W.kitOne K (.ref (He.ga K "OrderError")) (.ref (He.ga K y)) = some false)) && decide (PySem.W.kitOne K (.ref (He.ga K "OrderError")) (.type "ValueError") = some true)
def exK (K : PySem.W.Frag) : Bool := initB PySem.Challenge.pw_trustsorted_k06_errors_and_what_they_kee K (fI K) (OE K) && ordB K (fI K) (OE K) (OE K) && (NMS.all fun x => ordB K (fI K) (OE K) (He.ga K x)) && errsB K && (K.lookup sysModules).isSome
theorem errs_of {K : PySem.W.Frag} (h : errsB K = true) : Errs K := by
  unfold errsB at h
  obtain ⟨h, h5⟩ := an h
  obtain ⟨h, h4⟩ := an h
  obtain ⟨h, h3⟩ := an h
  obtain ⟨h1, h2⟩ := an h
  exact ⟨fun x hx y hy => of_decide_eq_true (List.all_eq_true.mp (List.all_eq_true.mp h1 x hx) y hy), fun x hx => of_decide_eq_true (List.all_eq_true.mp h2 x hx), fun x hx => of_decide_eq_true (List.all_eq_true.mp h3 x hx), fun x hx => of_decide_eq_true (List.all_eq_true.mp h4 x hx), of_decide_eq_true h5⟩
abbrev R : PySem.W.OpenRow := PySem.W.OpenLaw.row PySem.Challenge.rw_trustsorted_k06_errors_and_what_they_kee
abbrev hk : PySem.W.Hook := hookM 5 fa fn exK
def ob (s : PySem.W.SharedT) : AlM := obsM 5 fa fn exK (HandSHeadRun.getT s)
theorem ob_eq (s : PySem.W.SharedT) : ob s = hk.obs s.abs := obsM_eq (HandSHeadRun.getT_eq s)
def loose : List PySem.Str := (["OrderError", "BadHouse", "NoRule", "NoPass", "NotFull", "BadName", "BadRows", "BadSeen", "Unfit", "BadTool", "BadLoad", "BadPromise", "BadPromises", "BadSigns", "BadForms"] : List PySem.Str) ++ (["OtherSigns", "TooMany", "BadLength", "BadWork", "NoFile", "BadChanges", "BadOffers", "BadLine", "NoLine", "Needed", "NothingToUndo", "NothingToRedo", "NoTrial", "BadJournal", "BadSay"] : List PySem.Str) ++ (["_law_pot", "_law_take", "_law_of", "_law_cells", "_law_odd", "_law_bent", "_law_made", "_law_marks", "_law_right"] : List PySem.Str)
theorem run (w : World) : HandSHeadRun.RunEq R (PySem.W.view R.prog [41]) hk ob 20000 loose w := by
  intro os
  kernel_rfl
end LK
end
section
namespace LK
open PySem PySem.Spec PyProof.Rows L2 DL


def spNo : SpD := fun _ _ _ _ => False
section
variable {P : Program} {w : World} {K : PySem.W.Frag} {mg : Str → Option Value} {base : Heap} {E : Addr → D → Gp → Prop}
theorem FnG_no {x : Str} {st : Stmt} {f : Addr} {fd : FuncData} {ps : List Str} {k : Nat} (hm : mg x = some (.ref f)) (F : FunD K x x (defArgs st) (defBody st) (defScope st) [] [] f fd) (hb : Binds K fd ps []) : FnG P w K mg base k x spNo [] :=
  ⟨f, fd, ps, [], [], hm, F.kp, ⟨fun ⟨_, _, _, _, _, _, z, _⟩ => z.elim, fun _ _ _ _ _ ⟨_, _, _, _, _, _, z, _⟩ => z.elim⟩, hb, .nil, fun _ => rfl⟩
theorem bent0 (ds : List D) (G : Gp) (Q : D → Gp → Prop) (h : spB 1 [(.str "a", strP "a"), (.str "b", strP "b"), (.int 3, intP 3)] ds G Q E) : (sem K (m_law_bent spTake spOf spOdd spNo)).s { nx := fun _ G' => Q .non G', rt := Q, ex := fun C d _ G' => E C d G' } (startD N_law_bent ds) G := by
  obtain ⟨p, d, outs, n, rfl, hi, hP, hn, hQ⟩ := h
  rcases List.mem_cons.mp hi with e | hi
  · cases e; exact bent_str (by decide +kernel) p n G Q hP (by omega) hQ
  rcases List.mem_cons.mp hi with e | hi
  · cases e; exact bent_str (by decide +kernel) p n G Q hP (by omega) hQ
  rcases List.mem_cons.mp hi with e | hi
  · cases e; exact bent_int (by decide +kernel) p n G Q hP (by omega) hQ
  cases hi
theorem bent1 (ds : List D) (G : Gp) (Q : D → Gp → Prop) (h : spB 4 [(.tup [.str "a", .str "b"], abP), (.int 3, intP 3)] ds G Q E) : (sem K (m_law_bent spTake spOf spOdd (spB 1 [(.str "a", strP "a"), (.str "b", strP "b"), (.int 3, intP 3)]))).s { nx := fun _ G' => Q .non G', rt := Q, ex := fun C d _ G' => E C d G' } (startD N_law_bent ds) G := by
  obtain ⟨p, d, outs, n, rfl, hi, hP, hn, hQ⟩ := h
  rcases List.mem_cons.mp hi with e | hi
  · cases e; exact bent_pair (List.mem_cons_self ..) (List.mem_cons_of_mem _ (List.mem_cons_self ..)) (fun _ _ => val_str) (fun _ _ => val_str) (by decide +kernel) (by decide +kernel) p n G Q hP (by omega) hQ
  rcases List.mem_cons.mp hi with e | hi
  · cases e; exact bent_int (by decide +kernel) p n G Q hP (by omega) fun x q G' a b c d => hQ x q G' a b (c.mono (by omega)) d
  cases hi
theorem bent2 (ds : List D) (G : Gp) (Q : D → Gp → Prop) (h : spBent ds G Q E) : (sem K (m_law_bent spTake spOf spOdd (spB 4 [(.tup [.str "a", .str "b"], abP), (.int 3, intP 3)]))).s { nx := fun _ G' => Q .non G', rt := Q, ex := fun C d _ G' => E C d G' } (startD N_law_bent ds) G := by
  obtain ⟨p, d, outs, n, rfl, hi, hP, hn, hQ⟩ := h
  rcases List.mem_cons.mp hi with e | hi
  · cases e; exact bent_pair (List.mem_cons_self ..) (List.mem_cons_of_mem _ (List.mem_cons_self ..)) (fun _ _ => val_tup (vcons val_str (vcons val_str vnil))) (fun _ _ => val_int) (by decide +kernel) (by decide +kernel) p n G Q hP (by omega) fun x q G' a b c d => hQ x q G' a b (c.mono (by omega)) d
  cases hi
end
section
variable {w : World} {K : PySem.W.Frag} {h : Heap} {mg : Str → Option Value} {base : Heap}
theorem facts {f : Addr} (X : K.In h) (G : h.Ns mainGlobals mg) (hfa : mg ("law" : Str) = some (.ref f)) (c : SaysM fa fn exK K) :
    ∃ fd : FuncData, (∀ (s : Shared) (v : Value), BindsTo s fd ⟨[v], []⟩ [("_law_script", v)]) ∧ ∀ base : Heap, K.In base → base.Ns mainGlobals mg → FnOkG PySem.Challenge.pw_trustsorted_k06_errors_and_what_they_kee w K mg base 8 f fd ["_law_script"] (liftSp K spLaw) := by
  have more := c.more
  unfold exK at more
  obtain ⟨more, m5⟩ := an more
  obtain ⟨more, m4⟩ := an more
  obtain ⟨more, m3⟩ := an more
  obtain ⟨m1, m2⟩ := an more
  have EI : OrdI PySem.Challenge.pw_trustsorted_k06_errors_and_what_they_kee K (fI K) (OE K) := ordI_of m1
  have EO : OrdC K (fI K) (OE K) (OE K) := ordC_of m2
  have EX : ∀ x ∈ NMS, OrdC K (fI K) (OE K) (He.ga K x) := fun x hx => ordC_of (List.all_eq_true.mp m3 x hx)
  have ER : Errs K := errs_of m4
  have SM : ∃ o, K.lookup sysModules = some o := Option.isSome_iff_exists.mp m5
  have b_abs : mg ("abs" : Str) = none := He.free_ok X G (c.d.fact 40 (f := .free "abs") rfl)
  have b_int : mg ("int" : Str) = none := He.free_ok X G (c.d.fact 41 (f := .free "int") rfl)
  have b_len : mg ("len" : Str) = none := He.free_ok X G (c.d.fact 42 (f := .free "len") rfl)
  have b_list : mg ("list" : Str) = none := He.free_ok X G (c.d.fact 43 (f := .free "list") rfl)
  have b_max : mg ("max" : Str) = none := He.free_ok X G (c.d.fact 44 (f := .free "max") rfl)
  have b_min : mg ("min" : Str) = none := He.free_ok X G (c.d.fact 45 (f := .free "min") rfl)
  have b_range : mg ("range" : Str) = none := He.free_ok X G (c.d.fact 46 (f := .free "range") rfl)
  have b_isinstance : mg ("isinstance" : Str) = none := He.free_ok X G (c.d.fact 47 (f := .free "isinstance") rfl)
  have b_str : mg ("str" : Str) = none := He.free_ok X G (c.d.fact 48 (f := .free "str") rfl)
  have b_tuple : mg ("tuple" : Str) = none := He.free_ok X G (c.d.fact 49 (f := .free "tuple") rfl)
  have b_bool : mg ("bool" : Str) = none := He.free_ok X G (c.d.fact 50 (f := .free "bool") rfl)
  have b_enumerate : mg ("enumerate" : Str) = none := He.free_ok X G (c.d.fact 51 (f := .free "enumerate") rfl)
  have b_repr : mg ("repr" : Str) = none := He.free_ok X G (c.d.fact 52 (f := .free "repr") rfl)
  have b_any : mg ("any" : Str) = none := He.free_ok X G (c.d.fact 53 (f := .free "any") rfl)
  have b_all : mg ("all" : Str) = none := He.free_ok X G (c.d.fact 54 (f := .free "all") rfl)
  have b_ValueError : mg ("ValueError" : Str) = none := He.free_ok X G (c.d.fact 55 (f := .free "ValueError") rfl)
  have g_OrderError : mg ("OrderError" : Str) = some (.ref (He.ga K "OrderError")) := He.glo_ok X G (c.d.fact 10 (f := .glo "OrderError") rfl)
  have g_BadHouse : mg ("BadHouse" : Str) = some (.ref (He.ga K "BadHouse")) := He.glo_ok X G (c.d.fact 11 (f := .glo "BadHouse") rfl)
  have g_NoRule : mg ("NoRule" : Str) = some (.ref (He.ga K "NoRule")) := He.glo_ok X G (c.d.fact 12 (f := .glo "NoRule") rfl)
  have g_NoPass : mg ("NoPass" : Str) = some (.ref (He.ga K "NoPass")) := He.glo_ok X G (c.d.fact 13 (f := .glo "NoPass") rfl)
  have g_NotFull : mg ("NotFull" : Str) = some (.ref (He.ga K "NotFull")) := He.glo_ok X G (c.d.fact 14 (f := .glo "NotFull") rfl)
  have g_BadName : mg ("BadName" : Str) = some (.ref (He.ga K "BadName")) := He.glo_ok X G (c.d.fact 15 (f := .glo "BadName") rfl)
  have g_BadRows : mg ("BadRows" : Str) = some (.ref (He.ga K "BadRows")) := He.glo_ok X G (c.d.fact 16 (f := .glo "BadRows") rfl)
  have g_BadSeen : mg ("BadSeen" : Str) = some (.ref (He.ga K "BadSeen")) := He.glo_ok X G (c.d.fact 17 (f := .glo "BadSeen") rfl)
  have g_Unfit : mg ("Unfit" : Str) = some (.ref (He.ga K "Unfit")) := He.glo_ok X G (c.d.fact 18 (f := .glo "Unfit") rfl)
  have g_BadTool : mg ("BadTool" : Str) = some (.ref (He.ga K "BadTool")) := He.glo_ok X G (c.d.fact 19 (f := .glo "BadTool") rfl)
  have g_BadLoad : mg ("BadLoad" : Str) = some (.ref (He.ga K "BadLoad")) := He.glo_ok X G (c.d.fact 20 (f := .glo "BadLoad") rfl)
  have g_BadPromise : mg ("BadPromise" : Str) = some (.ref (He.ga K "BadPromise")) := He.glo_ok X G (c.d.fact 21 (f := .glo "BadPromise") rfl)
  have g_BadPromises : mg ("BadPromises" : Str) = some (.ref (He.ga K "BadPromises")) := He.glo_ok X G (c.d.fact 22 (f := .glo "BadPromises") rfl)
  have g_BadSigns : mg ("BadSigns" : Str) = some (.ref (He.ga K "BadSigns")) := He.glo_ok X G (c.d.fact 23 (f := .glo "BadSigns") rfl)
  have g_BadForms : mg ("BadForms" : Str) = some (.ref (He.ga K "BadForms")) := He.glo_ok X G (c.d.fact 24 (f := .glo "BadForms") rfl)
  have g_OtherSigns : mg ("OtherSigns" : Str) = some (.ref (He.ga K "OtherSigns")) := He.glo_ok X G (c.d.fact 25 (f := .glo "OtherSigns") rfl)
  have g_TooMany : mg ("TooMany" : Str) = some (.ref (He.ga K "TooMany")) := He.glo_ok X G (c.d.fact 26 (f := .glo "TooMany") rfl)
  have g_BadLength : mg ("BadLength" : Str) = some (.ref (He.ga K "BadLength")) := He.glo_ok X G (c.d.fact 27 (f := .glo "BadLength") rfl)
  have g_BadWork : mg ("BadWork" : Str) = some (.ref (He.ga K "BadWork")) := He.glo_ok X G (c.d.fact 28 (f := .glo "BadWork") rfl)
  have g_NoFile : mg ("NoFile" : Str) = some (.ref (He.ga K "NoFile")) := He.glo_ok X G (c.d.fact 29 (f := .glo "NoFile") rfl)
  have g_BadChanges : mg ("BadChanges" : Str) = some (.ref (He.ga K "BadChanges")) := He.glo_ok X G (c.d.fact 30 (f := .glo "BadChanges") rfl)
  have g_BadOffers : mg ("BadOffers" : Str) = some (.ref (He.ga K "BadOffers")) := He.glo_ok X G (c.d.fact 31 (f := .glo "BadOffers") rfl)
  have g_BadLine : mg ("BadLine" : Str) = some (.ref (He.ga K "BadLine")) := He.glo_ok X G (c.d.fact 32 (f := .glo "BadLine") rfl)
  have g_NoLine : mg ("NoLine" : Str) = some (.ref (He.ga K "NoLine")) := He.glo_ok X G (c.d.fact 33 (f := .glo "NoLine") rfl)
  have g_Needed : mg ("Needed" : Str) = some (.ref (He.ga K "Needed")) := He.glo_ok X G (c.d.fact 34 (f := .glo "Needed") rfl)
  have g_NothingToUndo : mg ("NothingToUndo" : Str) = some (.ref (He.ga K "NothingToUndo")) := He.glo_ok X G (c.d.fact 35 (f := .glo "NothingToUndo") rfl)
  have g_NothingToRedo : mg ("NothingToRedo" : Str) = some (.ref (He.ga K "NothingToRedo")) := He.glo_ok X G (c.d.fact 36 (f := .glo "NothingToRedo") rfl)
  have g_NoTrial : mg ("NoTrial" : Str) = some (.ref (He.ga K "NoTrial")) := He.glo_ok X G (c.d.fact 37 (f := .glo "NoTrial") rfl)
  have g_BadJournal : mg ("BadJournal" : Str) = some (.ref (He.ga K "BadJournal")) := He.glo_ok X G (c.d.fact 38 (f := .glo "BadJournal") rfl)
  have g_BadSay : mg ("BadSay" : Str) = some (.ref (He.ga K "BadSay")) := He.glo_ok X G (c.d.fact 39 (f := .glo "BadSay") rfl)
  have gd__law_pot : mg ("_law_pot" : Str) = some (.ref (He.ga K "_law_pot")) := He.glo_ok X G (c.d.fact 0 (f := .glo "_law_pot") rfl)
  obtain ⟨fd__law_pot, F0__law_pot⟩ := c.d.def_ 0 (d := topD "_law_pot" (top 32)) rfl
  have F__law_pot : FunD K "_law_pot" "_law_pot" (defArgs (top 32)) (defBody (top 32)) (defScope (top 32)) [] [] (He.ga K "_law_pot") fd__law_pot := F0__law_pot
  have B__law_pot : Binds K fd__law_pot P_law_pot [] := FunD.bindsN F__law_pot fun _ _ _ _ _ _ us hl => match us, hl with | [_, _], _ => rfl
  have gd__law_take : mg ("_law_take" : Str) = some (.ref (He.ga K "_law_take")) := He.glo_ok X G (c.d.fact 1 (f := .glo "_law_take") rfl)
  obtain ⟨fd__law_take, F0__law_take⟩ := c.d.def_ 1 (d := topD "_law_take" (top 33)) rfl
  have F__law_take : FunD K "_law_take" "_law_take" (defArgs (top 33)) (defBody (top 33)) (defScope (top 33)) [] [] (He.ga K "_law_take") fd__law_take := F0__law_take
  have B__law_take : Binds K fd__law_take P_law_take [] := FunD.bindsN F__law_take fun _ _ _ _ _ _ us hl => match us, hl with | [_, _], _ => rfl
  have gd__law_of : mg ("_law_of" : Str) = some (.ref (He.ga K "_law_of")) := He.glo_ok X G (c.d.fact 2 (f := .glo "_law_of") rfl)
  obtain ⟨fd__law_of, F0__law_of⟩ := c.d.def_ 2 (d := topD "_law_of" (top 34)) rfl
  have F__law_of : FunD K "_law_of" "_law_of" (defArgs (top 34)) (defBody (top 34)) (defScope (top 34)) [] [] (He.ga K "_law_of") fd__law_of := F0__law_of
  have B__law_of : Binds K fd__law_of P_law_of [] := FunD.bindsN F__law_of fun _ _ _ _ _ _ us hl => match us, hl with | [_, _], _ => rfl
  have gd__law_cells : mg ("_law_cells" : Str) = some (.ref (He.ga K "_law_cells")) := He.glo_ok X G (c.d.fact 3 (f := .glo "_law_cells") rfl)
  obtain ⟨fd__law_cells, F0__law_cells⟩ := c.d.def_ 3 (d := topD "_law_cells" (top 35)) rfl
  have F__law_cells : FunD K "_law_cells" "_law_cells" (defArgs (top 35)) (defBody (top 35)) (defScope (top 35)) [] [] (He.ga K "_law_cells") fd__law_cells := F0__law_cells
  have B__law_cells : Binds K fd__law_cells P_law_cells [] := FunD.bindsN F__law_cells fun _ _ _ _ _ _ us hl => match us, hl with | [_, _], _ => rfl
  have gd__law_odd : mg ("_law_odd" : Str) = some (.ref (He.ga K "_law_odd")) := He.glo_ok X G (c.d.fact 4 (f := .glo "_law_odd") rfl)
  obtain ⟨fd__law_odd, F0__law_odd⟩ := c.d.def_ 4 (d := topD "_law_odd" (top 36)) rfl
  have F__law_odd : FunD K "_law_odd" "_law_odd" (defArgs (top 36)) (defBody (top 36)) (defScope (top 36)) [] [] (He.ga K "_law_odd") fd__law_odd := F0__law_odd
  have B__law_odd : Binds K fd__law_odd P_law_odd [] := FunD.bindsN F__law_odd fun _ _ _ _ _ _ us hl => match us, hl with | [_], _ => rfl
  have gd__law_bent : mg ("_law_bent" : Str) = some (.ref (He.ga K "_law_bent")) := He.glo_ok X G (c.d.fact 5 (f := .glo "_law_bent") rfl)
  obtain ⟨fd__law_bent, F0__law_bent⟩ := c.d.def_ 5 (d := topD "_law_bent" (top 37)) rfl
  have F__law_bent : FunD K "_law_bent" "_law_bent" (defArgs (top 37)) (defBody (top 37)) (defScope (top 37)) [] [] (He.ga K "_law_bent") fd__law_bent := F0__law_bent
  have B__law_bent : Binds K fd__law_bent P_law_bent [] := FunD.bindsN F__law_bent fun _ _ _ _ _ _ us hl => match us, hl with | [_, _], _ => rfl
  have gd__law_made : mg ("_law_made" : Str) = some (.ref (He.ga K "_law_made")) := He.glo_ok X G (c.d.fact 6 (f := .glo "_law_made") rfl)
  obtain ⟨fd__law_made, F0__law_made⟩ := c.d.def_ 6 (d := topD "_law_made" (top 38)) rfl
  have F__law_made : FunD K "_law_made" "_law_made" (defArgs (top 38)) (defBody (top 38)) (defScope (top 38)) [] [] (He.ga K "_law_made") fd__law_made := F0__law_made
  have B__law_made : Binds K fd__law_made P_law_made [] := FunD.bindsN F__law_made fun _ _ _ _ _ _ us hl => match us, hl with | [_], _ => rfl
  have gd__law_marks : mg ("_law_marks" : Str) = some (.ref (He.ga K "_law_marks")) := He.glo_ok X G (c.d.fact 7 (f := .glo "_law_marks") rfl)
  obtain ⟨fd__law_marks, F0__law_marks⟩ := c.d.def_ 7 (d := topD "_law_marks" (top 39)) rfl
  have F__law_marks : FunD K "_law_marks" "_law_marks" (defArgs (top 39)) (defBody (top 39)) (defScope (top 39)) [] [] (He.ga K "_law_marks") fd__law_marks := F0__law_marks
  have B__law_marks : Binds K fd__law_marks P_law_marks [] := FunD.bindsN F__law_marks fun _ _ _ _ _ _ us hl => match us, hl with | [_], _ => rfl
  have gd__law_right : mg ("_law_right" : Str) = some (.ref (He.ga K "_law_right")) := He.glo_ok X G (c.d.fact 8 (f := .glo "_law_right") rfl)
  obtain ⟨fd__law_right, F0__law_right⟩ := c.d.def_ 8 (d := topD "_law_right" (top 40)) rfl
  have F__law_right : FunD K "_law_right" "_law_right" (defArgs (top 40)) (defBody (top 40)) (defScope (top 40)) [] [] (He.ga K "_law_right") fd__law_right := F0__law_right
  have B__law_right : Binds K fd__law_right P_law_right [] := FunD.bindsN F__law_right fun _ _ _ _ _ _ us hl => match us, hl with | [_], _ => rfl
  have gd_law : mg ("law" : Str) = some (.ref (He.ga K "law")) := He.glo_ok X G (c.d.fact 9 (f := .glo "law") rfl)
  obtain ⟨fd_law, F0_law⟩ := c.d.def_ 9 (d := topD "law" (top 41)) rfl
  have F_law : FunD K "law" "law" (defArgs (top 41)) (defBody (top 41)) (defScope (top 41)) [] [] (He.ga K "law") fd_law := F0_law
  have B_law : Binds K fd_law P_law [] := FunD.bindsN F_law fun _ _ _ _ _ _ us hl => match us, hl with | [_], _ => rfl
  have e := hfa.symm.trans gd_law
  cases e
  have b := FunD.bindsA (ps := ["_law_script"]) F_law fun _ _ _ _ _ _ us hl => match us, hl with | [_], _ => rfl
  refine ⟨fd_law, fun s v => b s [v] rfl, fun base hK hG => ?_⟩
  have Ttake : FnG PySem.Challenge.pw_trustsorted_k06_errors_and_what_they_kee w K mg base (0 + 1) "_law_take" spTake [] := fnT m_law_take F__law_take gd__law_take sc_law_take ck_law_take SM (by
      unfold m_law_take; simp only [Fn, BI.name, b_int, and_self]) (fun ds G Q E h => by obtain ⟨p, u, n, rfl, _⟩ := h; rfl) (fun ds G Q E h => take_hp ds G Q E h) B__law_take
  have Tpot : FnG PySem.Challenge.pw_trustsorted_k06_errors_and_what_they_kee w K mg base (0 + 1) "_law_pot" spPot [] := fnT m_law_pot F__law_pot gd__law_pot sc_law_pot ck_law_pot SM (by
      unfold m_law_pot; simp only [Fn, BI.name, b_int, b_abs, b_len, and_self]) (fun ds G Q E h => by obtain ⟨ns, i, rfl, _⟩ := h; rfl) (fun ds G Q E h => pot_hp ds G Q h) B__law_pot
  have Tcells : FnG PySem.Challenge.pw_trustsorted_k06_errors_and_what_they_kee w K mg base (0 + 1) "_law_cells" spCells [] := fnT m_law_cells F__law_cells gd__law_cells sc_law_cells ck_law_cells SM (by
      unfold m_law_cells; simp only [Fn, BI.name, b_list, b_range, b_max, b_min, b_len, and_self]) (fun ds G Q E h => by obtain ⟨ns, i, rfl, _⟩ := h; rfl) (fun ds G Q E h => cells_hp ds G Q h) B__law_cells
  have U1 : ∃ j, j ≤ 1 ∧ FnG PySem.Challenge.pw_trustsorted_k06_errors_and_what_they_kee w K mg base j "_law_take" spTake [] := ⟨1, by decide, Ttake⟩
  have Tof : FnG PySem.Challenge.pw_trustsorted_k06_errors_and_what_they_kee w K mg base (1 + 1) "_law_of" spOf [] := fnT (m_law_of spTake) F__law_of gd__law_of sc_law_of (ck_law_of spTake) SM (by
      unfold m_law_of; simp only [Fn, BI.name, U1, b_len, and_self]) (fun ds G Q E h => by obtain ⟨p, r, n, xs, rfl, _⟩ := h; rfl) (fun ds G Q E h => of_hp ds G Q h) B__law_of
  have U2 : ∃ j, j ≤ 2 ∧ FnG PySem.Challenge.pw_trustsorted_k06_errors_and_what_they_kee w K mg base j "_law_of" spOf [] := ⟨2, by decide, Tof⟩
  have Todd : FnG PySem.Challenge.pw_trustsorted_k06_errors_and_what_they_kee w K mg base (2 + 1) "_law_odd" spOdd [] := fnT (m_law_odd spOf) F__law_odd gd__law_odd sc_law_odd (ck_law_odd spOf) SM (by
      unfold m_law_odd; simp only [Fn, BI.name, U2, and_self]) (fun ds G Q E h => by obtain ⟨p, n, rfl, _⟩ := h; rfl) (fun ds G Q E h => odd_hp ds G Q h) B__law_odd
  have V3t : ∃ j, j ≤ 3 ∧ FnG PySem.Challenge.pw_trustsorted_k06_errors_and_what_they_kee w K mg base j "_law_take" spTake [] := ⟨1, by decide, Ttake⟩
  have V3f : ∃ j, j ≤ 3 ∧ FnG PySem.Challenge.pw_trustsorted_k06_errors_and_what_they_kee w K mg base j "_law_of" spOf [] := ⟨2, by decide, Tof⟩
  have V3o : ∃ j, j ≤ 3 ∧ FnG PySem.Challenge.pw_trustsorted_k06_errors_and_what_they_kee w K mg base j "_law_odd" spOdd [] := ⟨3, by decide, Todd⟩
  have V4t : ∃ j, j ≤ 4 ∧ FnG PySem.Challenge.pw_trustsorted_k06_errors_and_what_they_kee w K mg base j "_law_take" spTake [] := ⟨1, by decide, Ttake⟩
  have V4f : ∃ j, j ≤ 4 ∧ FnG PySem.Challenge.pw_trustsorted_k06_errors_and_what_they_kee w K mg base j "_law_of" spOf [] := ⟨2, by decide, Tof⟩
  have V4o : ∃ j, j ≤ 4 ∧ FnG PySem.Challenge.pw_trustsorted_k06_errors_and_what_they_kee w K mg base j "_law_odd" spOdd [] := ⟨3, by decide, Todd⟩
  have V5t : ∃ j, j ≤ 5 ∧ FnG PySem.Challenge.pw_trustsorted_k06_errors_and_what_they_kee w K mg base j "_law_take" spTake [] := ⟨1, by decide, Ttake⟩
  have V5f : ∃ j, j ≤ 5 ∧ FnG PySem.Challenge.pw_trustsorted_k06_errors_and_what_they_kee w K mg base j "_law_of" spOf [] := ⟨2, by decide, Tof⟩
  have V5o : ∃ j, j ≤ 5 ∧ FnG PySem.Challenge.pw_trustsorted_k06_errors_and_what_they_kee w K mg base j "_law_odd" spOdd [] := ⟨3, by decide, Todd⟩
  let inp0 : List (D × List PyData) := [(.str "a", strP "a"), (.str "b", strP "b"), (.int 3, intP 3)]
  let inp1 : List (D × List PyData) := [(.tup [.str "a", .str "b"], abP), (.int 3, intP 3)]
  have Z0 : ∃ j, j ≤ 3 ∧ FnG PySem.Challenge.pw_trustsorted_k06_errors_and_what_they_kee w K mg base j "_law_bent" spNo [] := ⟨1, by decide, FnG_no gd__law_bent F__law_bent B__law_bent⟩
  have Tb0 : FnG PySem.Challenge.pw_trustsorted_k06_errors_and_what_they_kee w K mg base (3 + 1) "_law_bent" (spB 1 inp0) [] := fnT (m_law_bent spTake spOf spOdd spNo) F__law_bent gd__law_bent sc_law_bent (ck_law_bent spTake spOf spOdd spNo) SM (by
      unfold m_law_bent; simp only [Fn, BI.name, V3t, V3f, V3o, Z0, b_isinstance, b_tuple, b_len, b_list, b_bool, b_int, b_str, and_self]) (fun ds G Q E h => by obtain ⟨p, d, outs, n, rfl, _⟩ := h; rfl) (fun ds G Q E h => bent0 ds G Q h) B__law_bent
  have Z1 : ∃ j, j ≤ 4 ∧ FnG PySem.Challenge.pw_trustsorted_k06_errors_and_what_they_kee w K mg base j "_law_bent" (spB 1 inp0) [] := ⟨4, by decide, Tb0⟩
  have Tb1 : FnG PySem.Challenge.pw_trustsorted_k06_errors_and_what_they_kee w K mg base (4 + 1) "_law_bent" (spB 4 inp1) [] := fnT (m_law_bent spTake spOf spOdd (spB 1 inp0)) F__law_bent gd__law_bent sc_law_bent (ck_law_bent spTake spOf spOdd (spB 1 inp0)) SM (by
      unfold m_law_bent; simp only [Fn, BI.name, V4t, V4f, V4o, Z1, b_isinstance, b_tuple, b_len, b_list, b_bool, b_int, b_str, and_self]) (fun ds G Q E h => by obtain ⟨p, d, outs, n, rfl, _⟩ := h; rfl) (fun ds G Q E h => bent1 ds G Q h) B__law_bent
  have Z2 : ∃ j, j ≤ 5 ∧ FnG PySem.Challenge.pw_trustsorted_k06_errors_and_what_they_kee w K mg base j "_law_bent" (spB 4 inp1) [] := ⟨5, by decide, Tb1⟩
  have Tb2 : FnG PySem.Challenge.pw_trustsorted_k06_errors_and_what_they_kee w K mg base (5 + 1) "_law_bent" spBent [] := fnT (m_law_bent spTake spOf spOdd (spB 4 inp1)) F__law_bent gd__law_bent sc_law_bent (ck_law_bent spTake spOf spOdd (spB 4 inp1)) SM (by
      unfold m_law_bent; simp only [Fn, BI.name, V5t, V5f, V5o, Z2, b_isinstance, b_tuple, b_len, b_list, b_bool, b_int, b_str, and_self]) (fun ds G Q E h => by obtain ⟨p, d, outs, n, rfl, _⟩ := h; rfl) (fun ds G Q E h => bent2 ds G Q h) B__law_bent
  have q_BadHouse : (mg ("BadHouse" : Str) = some (.ref (He.ga K "BadHouse")) ∧ 1 ≤ 1 ∧ ∃ fI D, OrdI PySem.Challenge.pw_trustsorted_k06_errors_and_what_they_kee K fI D ∧ OrdC K fI D (He.ga K "BadHouse")) := ⟨g_BadHouse, by decide, _, _, EI, EX _ (by decide +kernel)⟩
  have q_NoRule : (mg ("NoRule" : Str) = some (.ref (He.ga K "NoRule")) ∧ 1 ≤ 1 ∧ ∃ fI D, OrdI PySem.Challenge.pw_trustsorted_k06_errors_and_what_they_kee K fI D ∧ OrdC K fI D (He.ga K "NoRule")) := ⟨g_NoRule, by decide, _, _, EI, EX _ (by decide +kernel)⟩
  have q_NoPass : (mg ("NoPass" : Str) = some (.ref (He.ga K "NoPass")) ∧ 1 ≤ 1 ∧ ∃ fI D, OrdI PySem.Challenge.pw_trustsorted_k06_errors_and_what_they_kee K fI D ∧ OrdC K fI D (He.ga K "NoPass")) := ⟨g_NoPass, by decide, _, _, EI, EX _ (by decide +kernel)⟩
  have q_NotFull : (mg ("NotFull" : Str) = some (.ref (He.ga K "NotFull")) ∧ 1 ≤ 1 ∧ ∃ fI D, OrdI PySem.Challenge.pw_trustsorted_k06_errors_and_what_they_kee K fI D ∧ OrdC K fI D (He.ga K "NotFull")) := ⟨g_NotFull, by decide, _, _, EI, EX _ (by decide +kernel)⟩
  have q_BadName : (mg ("BadName" : Str) = some (.ref (He.ga K "BadName")) ∧ 1 ≤ 1 ∧ ∃ fI D, OrdI PySem.Challenge.pw_trustsorted_k06_errors_and_what_they_kee K fI D ∧ OrdC K fI D (He.ga K "BadName")) := ⟨g_BadName, by decide, _, _, EI, EX _ (by decide +kernel)⟩
  have q_BadRows : (mg ("BadRows" : Str) = some (.ref (He.ga K "BadRows")) ∧ 1 ≤ 1 ∧ ∃ fI D, OrdI PySem.Challenge.pw_trustsorted_k06_errors_and_what_they_kee K fI D ∧ OrdC K fI D (He.ga K "BadRows")) := ⟨g_BadRows, by decide, _, _, EI, EX _ (by decide +kernel)⟩
  have q_BadSeen : (mg ("BadSeen" : Str) = some (.ref (He.ga K "BadSeen")) ∧ 1 ≤ 1 ∧ ∃ fI D, OrdI PySem.Challenge.pw_trustsorted_k06_errors_and_what_they_kee K fI D ∧ OrdC K fI D (He.ga K "BadSeen")) := ⟨g_BadSeen, by decide, _, _, EI, EX _ (by decide +kernel)⟩
  have q_Unfit : (mg ("Unfit" : Str) = some (.ref (He.ga K "Unfit")) ∧ 1 ≤ 1 ∧ ∃ fI D, OrdI PySem.Challenge.pw_trustsorted_k06_errors_and_what_they_kee K fI D ∧ OrdC K fI D (He.ga K "Unfit")) := ⟨g_Unfit, by decide, _, _, EI, EX _ (by decide +kernel)⟩
  have q_BadTool : (mg ("BadTool" : Str) = some (.ref (He.ga K "BadTool")) ∧ 1 ≤ 1 ∧ ∃ fI D, OrdI PySem.Challenge.pw_trustsorted_k06_errors_and_what_they_kee K fI D ∧ OrdC K fI D (He.ga K "BadTool")) := ⟨g_BadTool, by decide, _, _, EI, EX _ (by decide +kernel)⟩
  have q_BadLoad : (mg ("BadLoad" : Str) = some (.ref (He.ga K "BadLoad")) ∧ 1 ≤ 1 ∧ ∃ fI D, OrdI PySem.Challenge.pw_trustsorted_k06_errors_and_what_they_kee K fI D ∧ OrdC K fI D (He.ga K "BadLoad")) := ⟨g_BadLoad, by decide, _, _, EI, EX _ (by decide +kernel)⟩
  have q_BadPromise : (mg ("BadPromise" : Str) = some (.ref (He.ga K "BadPromise")) ∧ 1 ≤ 1 ∧ ∃ fI D, OrdI PySem.Challenge.pw_trustsorted_k06_errors_and_what_they_kee K fI D ∧ OrdC K fI D (He.ga K "BadPromise")) := ⟨g_BadPromise, by decide, _, _, EI, EX _ (by decide +kernel)⟩
  have q_BadPromises : (mg ("BadPromises" : Str) = some (.ref (He.ga K "BadPromises")) ∧ 1 ≤ 1 ∧ ∃ fI D, OrdI PySem.Challenge.pw_trustsorted_k06_errors_and_what_they_kee K fI D ∧ OrdC K fI D (He.ga K "BadPromises")) := ⟨g_BadPromises, by decide, _, _, EI, EX _ (by decide +kernel)⟩
  have q_BadSigns : (mg ("BadSigns" : Str) = some (.ref (He.ga K "BadSigns")) ∧ 1 ≤ 1 ∧ ∃ fI D, OrdI PySem.Challenge.pw_trustsorted_k06_errors_and_what_they_kee K fI D ∧ OrdC K fI D (He.ga K "BadSigns")) := ⟨g_BadSigns, by decide, _, _, EI, EX _ (by decide +kernel)⟩
  have q_BadForms : (mg ("BadForms" : Str) = some (.ref (He.ga K "BadForms")) ∧ 1 ≤ 1 ∧ ∃ fI D, OrdI PySem.Challenge.pw_trustsorted_k06_errors_and_what_they_kee K fI D ∧ OrdC K fI D (He.ga K "BadForms")) := ⟨g_BadForms, by decide, _, _, EI, EX _ (by decide +kernel)⟩
  have q_OtherSigns : (mg ("OtherSigns" : Str) = some (.ref (He.ga K "OtherSigns")) ∧ 1 ≤ 1 ∧ ∃ fI D, OrdI PySem.Challenge.pw_trustsorted_k06_errors_and_what_they_kee K fI D ∧ OrdC K fI D (He.ga K "OtherSigns")) := ⟨g_OtherSigns, by decide, _, _, EI, EX _ (by decide +kernel)⟩
  have q_TooMany : (mg ("TooMany" : Str) = some (.ref (He.ga K "TooMany")) ∧ 1 ≤ 1 ∧ ∃ fI D, OrdI PySem.Challenge.pw_trustsorted_k06_errors_and_what_they_kee K fI D ∧ OrdC K fI D (He.ga K "TooMany")) := ⟨g_TooMany, by decide, _, _, EI, EX _ (by decide +kernel)⟩
  have q_BadLength : (mg ("BadLength" : Str) = some (.ref (He.ga K "BadLength")) ∧ 1 ≤ 1 ∧ ∃ fI D, OrdI PySem.Challenge.pw_trustsorted_k06_errors_and_what_they_kee K fI D ∧ OrdC K fI D (He.ga K "BadLength")) := ⟨g_BadLength, by decide, _, _, EI, EX _ (by decide +kernel)⟩
  have q_BadWork : (mg ("BadWork" : Str) = some (.ref (He.ga K "BadWork")) ∧ 1 ≤ 1 ∧ ∃ fI D, OrdI PySem.Challenge.pw_trustsorted_k06_errors_and_what_they_kee K fI D ∧ OrdC K fI D (He.ga K "BadWork")) := ⟨g_BadWork, by decide, _, _, EI, EX _ (by decide +kernel)⟩
  have q_NoFile : (mg ("NoFile" : Str) = some (.ref (He.ga K "NoFile")) ∧ 1 ≤ 1 ∧ ∃ fI D, OrdI PySem.Challenge.pw_trustsorted_k06_errors_and_what_they_kee K fI D ∧ OrdC K fI D (He.ga K "NoFile")) := ⟨g_NoFile, by decide, _, _, EI, EX _ (by decide +kernel)⟩
  have q_BadChanges : (mg ("BadChanges" : Str) = some (.ref (He.ga K "BadChanges")) ∧ 1 ≤ 1 ∧ ∃ fI D, OrdI PySem.Challenge.pw_trustsorted_k06_errors_and_what_they_kee K fI D ∧ OrdC K fI D (He.ga K "BadChanges")) := ⟨g_BadChanges, by decide, _, _, EI, EX _ (by decide +kernel)⟩
  have q_BadOffers : (mg ("BadOffers" : Str) = some (.ref (He.ga K "BadOffers")) ∧ 1 ≤ 1 ∧ ∃ fI D, OrdI PySem.Challenge.pw_trustsorted_k06_errors_and_what_they_kee K fI D ∧ OrdC K fI D (He.ga K "BadOffers")) := ⟨g_BadOffers, by decide, _, _, EI, EX _ (by decide +kernel)⟩
  have q_BadLine : (mg ("BadLine" : Str) = some (.ref (He.ga K "BadLine")) ∧ 1 ≤ 1 ∧ ∃ fI D, OrdI PySem.Challenge.pw_trustsorted_k06_errors_and_what_they_kee K fI D ∧ OrdC K fI D (He.ga K "BadLine")) := ⟨g_BadLine, by decide, _, _, EI, EX _ (by decide +kernel)⟩
  have q_NoLine : (mg ("NoLine" : Str) = some (.ref (He.ga K "NoLine")) ∧ 1 ≤ 1 ∧ ∃ fI D, OrdI PySem.Challenge.pw_trustsorted_k06_errors_and_what_they_kee K fI D ∧ OrdC K fI D (He.ga K "NoLine")) := ⟨g_NoLine, by decide, _, _, EI, EX _ (by decide +kernel)⟩
  have q_Needed : (mg ("Needed" : Str) = some (.ref (He.ga K "Needed")) ∧ 1 ≤ 1 ∧ ∃ fI D, OrdI PySem.Challenge.pw_trustsorted_k06_errors_and_what_they_kee K fI D ∧ OrdC K fI D (He.ga K "Needed")) := ⟨g_Needed, by decide, _, _, EI, EX _ (by decide +kernel)⟩
  have q_NothingToUndo : (mg ("NothingToUndo" : Str) = some (.ref (He.ga K "NothingToUndo")) ∧ 1 ≤ 1 ∧ ∃ fI D, OrdI PySem.Challenge.pw_trustsorted_k06_errors_and_what_they_kee K fI D ∧ OrdC K fI D (He.ga K "NothingToUndo")) := ⟨g_NothingToUndo, by decide, _, _, EI, EX _ (by decide +kernel)⟩
  have q_NothingToRedo : (mg ("NothingToRedo" : Str) = some (.ref (He.ga K "NothingToRedo")) ∧ 1 ≤ 1 ∧ ∃ fI D, OrdI PySem.Challenge.pw_trustsorted_k06_errors_and_what_they_kee K fI D ∧ OrdC K fI D (He.ga K "NothingToRedo")) := ⟨g_NothingToRedo, by decide, _, _, EI, EX _ (by decide +kernel)⟩
  have q_NoTrial : (mg ("NoTrial" : Str) = some (.ref (He.ga K "NoTrial")) ∧ 1 ≤ 1 ∧ ∃ fI D, OrdI PySem.Challenge.pw_trustsorted_k06_errors_and_what_they_kee K fI D ∧ OrdC K fI D (He.ga K "NoTrial")) := ⟨g_NoTrial, by decide, _, _, EI, EX _ (by decide +kernel)⟩
  have q_BadJournal : (mg ("BadJournal" : Str) = some (.ref (He.ga K "BadJournal")) ∧ 1 ≤ 1 ∧ ∃ fI D, OrdI PySem.Challenge.pw_trustsorted_k06_errors_and_what_they_kee K fI D ∧ OrdC K fI D (He.ga K "BadJournal")) := ⟨g_BadJournal, by decide, _, _, EI, EX _ (by decide +kernel)⟩
  have q_BadSay : (mg ("BadSay" : Str) = some (.ref (He.ga K "BadSay")) ∧ 1 ≤ 1 ∧ ∃ fI D, OrdI PySem.Challenge.pw_trustsorted_k06_errors_and_what_they_kee K fI D ∧ OrdC K fI D (He.ga K "BadSay")) := ⟨g_BadSay, by decide, _, _, EI, EX _ (by decide +kernel)⟩
  have Tmade : FnG PySem.Challenge.pw_trustsorted_k06_errors_and_what_they_kee w K mg base (1 + 1) "_law_made" (spMade K) [] := fnT m_law_made F__law_made gd__law_made sc_law_made ck_law_made SM (by
      unfold m_law_made; simp only [Fn, q_BadHouse, q_NoRule, q_NoPass, q_NotFull, q_BadName, q_BadRows, q_BadSeen, q_Unfit, q_BadTool, q_BadLoad, q_BadPromise, q_BadPromises, q_BadSigns, q_BadForms, q_OtherSigns, q_TooMany, q_BadLength, q_BadWork, q_NoFile, q_BadChanges, q_BadOffers, q_BadLine, q_NoLine, q_Needed, q_NothingToUndo, q_NothingToRedo, q_NoTrial, q_BadJournal, q_BadSay, and_self]) (fun ds G Q E h => by obtain ⟨v, rfl, _⟩ := h; rfl) (fun ds G Q E h => made_hp ds G Q h) B__law_made
  have Tmarks : FnG PySem.Challenge.pw_trustsorted_k06_errors_and_what_they_kee w K mg base (0 + 1) "_law_marks" (spMarks K) [] := fnT m_law_marks F__law_marks gd__law_marks sc_law_marks ck_law_marks SM (by
      unfold m_law_marks; simp only [Fn, BI.name, b_isinstance, g_BadHouse, g_NoRule, g_NoPass, g_NotFull, g_BadName, g_BadRows, g_BadSeen, g_Unfit, g_BadTool, g_BadLoad, g_BadPromise, g_BadPromises, g_BadSigns, g_BadForms, g_OtherSigns, g_TooMany, g_BadLength, g_BadWork, g_NoFile, g_BadChanges, g_BadOffers, g_BadLine, g_NoLine, g_Needed, g_NothingToUndo, g_NothingToRedo, g_NoTrial, g_BadJournal, g_BadSay, and_self]) (fun ds G Q E h => by obtain ⟨C, v, f, rfl, _⟩ := h; rfl) (fun ds G Q E h => marks_hp ds G Q h) B__law_marks
  have W1 : ∃ j, j ≤ 6 ∧ FnG PySem.Challenge.pw_trustsorted_k06_errors_and_what_they_kee w K mg base j "_law_of" spOf [] := ⟨2, by decide, Tof⟩
  have W2 : ∃ j, j ≤ 6 ∧ FnG PySem.Challenge.pw_trustsorted_k06_errors_and_what_they_kee w K mg base j "_law_odd" spOdd [] := ⟨3, by decide, Todd⟩
  have W3 : ∃ j, j ≤ 6 ∧ FnG PySem.Challenge.pw_trustsorted_k06_errors_and_what_they_kee w K mg base j "_law_bent" spBent [] := ⟨6, by decide, Tb2⟩
  have W4 : ∃ j, j ≤ 6 ∧ FnG PySem.Challenge.pw_trustsorted_k06_errors_and_what_they_kee w K mg base j "_law_made" (spMade K) [] := ⟨2, by decide, Tmade⟩
  have W5 : ∃ j, j ≤ 6 ∧ FnG PySem.Challenge.pw_trustsorted_k06_errors_and_what_they_kee w K mg base j "_law_marks" (spMarks K) [] := ⟨1, by decide, Tmarks⟩
  have W6 : (mg ("OrderError" : Str) = some (.ref (He.ga K "OrderError")) ∧ 1 ≤ 6 ∧ ∃ fI D, OrdI PySem.Challenge.pw_trustsorted_k06_errors_and_what_they_kee K fI D ∧ OrdC K fI D (He.ga K "OrderError")) := ⟨g_OrderError, by decide, _, _, EI, EO⟩
  have Tright : FnG PySem.Challenge.pw_trustsorted_k06_errors_and_what_they_kee w K mg base (6 + 1) "_law_right" spRight [] := fnT (m_law_right spOf spOdd spBent (spMade K) (spMarks K)) F__law_right gd__law_right sc_law_right (ck_law_right spOf spOdd spBent (spMade K) (spMarks K)) SM (by
      unfold m_law_right; simp only [Fn, BI.name, W1, W2, W3, W4, W5, W6, g_OrderError, b_ValueError, b_any, b_enumerate, b_isinstance, b_len, b_range, b_repr, and_self]) (fun ds G Q E h => by obtain ⟨p, n, rfl, _⟩ := h; rfl) (fun ds G Q E h => right_hp ER ds G Q h) B__law_right
  have Y1 : ∃ j, j ≤ 7 ∧ FnG PySem.Challenge.pw_trustsorted_k06_errors_and_what_they_kee w K mg base j "_law_pot" spPot [] := ⟨1, by decide, Tpot⟩
  have Y2 : ∃ j, j ≤ 7 ∧ FnG PySem.Challenge.pw_trustsorted_k06_errors_and_what_they_kee w K mg base j "_law_cells" spCells [] := ⟨1, by decide, Tcells⟩
  have Y3 : ∃ j, j ≤ 7 ∧ FnG PySem.Challenge.pw_trustsorted_k06_errors_and_what_they_kee w K mg base j "_law_right" spRight [] := ⟨7, by decide, Tright⟩
  exact fnM (m_law spPot spCells spRight) sc_law.nd SM F_law sc_law (ck_law spPot spCells spRight) (by
    unfold m_law; simp only [Fn, BI.name, Y1, Y2, Y3, b_all, and_self]) (fun ds G Q E h => by obtain ⟨ns, rfl, _⟩ := h; rfl) (fun ds G Q E h => law_hp ds G Q h)
end
end LK
open PySem PySem.W PySem.Calls PyProof.Rows
theorem PySem.Challenge.cw_trustsorted_k06_errors_and_what_they_kee_holds : PySem.Challenge.rw_trustsorted_k06_errors_and_what_they_kee.Holds := by
  w_on; o_law
  refine HandSHeadRun.head_any (r := OpenLaw.row PySem.Challenge.rw_trustsorted_k06_errors_and_what_they_kee) (q := view (OpenLaw.row PySem.Challenge.rw_trustsorted_k06_errors_and_what_they_kee).prog [41]) (H := LK.hk) (ob := LK.ob) (M := 20000) (loose := LK.loose) (d := HandSHeadRun.topDef (OpenLaw.row PySem.Challenge.rw_trustsorted_k06_errors_and_what_they_kee).prog 41) (kwd := []) LK.ob_eq
    (by kernel_rfl) (fun s => by kernel_rfl) LK.run (by kernel_rfl) (by kernel_rfl) (by kernel_rfl) (by rfl) (by first | assumption | decide +kernel) (by decide +kernel) ⟨rfl, rfl, rfl, rfl, rfl, by decide +kernel⟩ ?hw ?hc
  case hw => w_witness2
  case hc =>
    refine DL.law_end (l := PySem.Challenge.rw_trustsorted_k06_errors_and_what_they_kee) (n := 63) (k := 8) (x := "_law_script") rfl (by decide) (by kernel_rfl) ⟨rfl, by decide, by decide⟩ ?F
    intro w mg fa h Y G hmg0
    obtain ⟨K, KX, c⟩ := Y
    have hmg : mg ("law" : PySem.Str) = some (.ref fa) := by
      have e : (HandSHeadRun.topDef (OpenLaw.row PySem.Challenge.rw_trustsorted_k06_errors_and_what_they_kee).prog 41).name = ("law" : PySem.Str) := by kernel_rfl
      rw [← e]
      exact hmg0
    obtain ⟨fd, hb, hF⟩ := LK.facts (w := w) KX G hmg c
    exact ⟨K, fd, LK.spLaw, KX, hb, fun ns hl => ⟨ns, rfl, fun _ => rfl⟩, hF⟩
end
